import PyProof.Rows.All
import Wide.All
import OpenK.AllK
import Wide.FinOn
import HandS.ForMost
import KE.KDictKeyed
import HandS.IsInst
import HandS.Wide
import HandS.EndBits
import HandS.Codes
import HandS.Zip
import HandS.TupAny
import KE.DataCmp
import KE.SortKeyHeap
import HandS.SortKw
import HandS.More
import HandS.SortInts
import HandS.Strs
import HandS.SetFor
import KE.SortData
import HandS.Conv
import HandS.Rev
import HandS.ClsMeth
import PyProof.StrBlock2
import HandS.Iter
import PyProof.ListIndex
import KE.KDictPairs
import PyProof.DictUpdate
import HandS.WordsExc
import HandS.TryOnly
import HandS.ExcInit
import HandS.ExcField
import HandS.ExcIs
import KE.KExcIs
import PyProof.ListMulAny
import PyProof.Rows.ListMulArg
import KE.GoesMore
import KE.GoesZip
import PyProof.TupleOfSeq
import HandS.Text
import HandS.ListItems
import HandS.NoneIn
import HandS.SetKeys
import PySem.Challenge.RW_twigtable_k01_kinds
set_option Elab.async false
set_option linter.all false
set_option maxRecDepth 100000
set_option maxHeartbeats 2000000
/-! dicts whose keys are trees of tuples -/
namespace L2
open PySem PySem.Spec PyProof.Rows
abbrev NX := List (NestedKey × Addr × Value)
/-- at a stands the dict of the entries xs, in their order -/
def dNO (w : World) (a : Addr) (xs : NX) : HO := .ext fun h => (a == sysModules) = false ∧ xs.length ≤ sizeLine ∧ ∃ o es ep, h.get? a = some o ∧ o.ExactDict ∧ o.data = .dict es ep ∧ es.toList = xs.map (fun x => (⟨x.1.hash w, .ref x.2.1, x.2.2⟩ : DictEntry)) ∧ (xs.map (·.1)).Nodup
/-- at b stands the tree of tuples that is the key q -/
def KeyAt (X : Cx) (H : Hp) (q : NestedKey) (b : Addr) : Prop := q.depth ≤ 8 ∧ ∀ pins σ s, Inv X pins σ H s → NestedIs s.heap q (.ref b)
section
variable {X : Cx} {pins : List (Addr × Obj)} {σ : St} {H : Hp} {s : Shared} {a b : Addr} {q : NestedKey} {xs : NX}
theorem dN_at (I : Inv X pins σ H s) (e : H a = some (dNO X.w a xs)) (ks : ∀ x ∈ xs, KeyAt X H x.1 x.2.1) : (a == sysModules) = false ∧ xs.length ≤ sizeLine ∧ s.heap.DictOfH (nestedKind X.prog X.w) a xs := by
  obtain ⟨h1, h2, o, es, ep, h3, h4, h5, h6, h7⟩ := (I.hok a _ e).1
  exact ⟨h1, h2, o, es, ep, h3, h4, h5, h6, fun x hx => ⟨(ks x hx).2 _ _ _ I, (ks x hx).1⟩, h7⟩
theorem dN_ok {P : Program} {w : World} {H' : Hp} {h : Heap} (hs : (a == sysModules) = false) (hl : xs.length ≤ sizeLine) (d : h.DictOfH (nestedKind P w) a xs) : ObjOk P w H' h a (dNO w a xs) := by
  obtain ⟨o, es, ep, h3, h4, h5, h6, h7, h8⟩ := d
  exact ⟨⟨hs, hl, o, es, ep, h3, h4, h5, h6, h8⟩, ⟨o, h3⟩, fun g1 g2 ⟨p1, p2, o, es, ep, q3, r⟩ k => ⟨p1, p2, o, es, ep, k o q3, r⟩⟩
theorem roomN {A : Around} (hu : A.units + 20 < cLine) : (nestedKind X.prog X.w).room A.in1 := by
  show A.units + 1 + 8 < cLine
  omega
/-! `{}` -/
def tDNewN (w : World) : TE := fun _ H Q => ∀ p, H p = none → Q (.ref p) (upd H p (dNO w p []))
theorem pe_dnewN {pos : Pos} : PE X (.Dict [] [] pos) (tDNewN X.w) := ⟨fun pins s σ H Q I h =>
  wpAny_Dict_empty ⟨.ref s.heap.objs.size, _, I.laid (a := s.heap.objs.size) (o := dNO X.w s.heap.objs.size []) (t' := s.toks) (fun _ _ e => Heap.get?_push_of_some _ e) (Nat.le_refl _)
    (dN_ok (beq_eq_false_iff_ne.mpr (Ne.symm (Nat.ne_of_lt I.big))) (Nat.zero_le _) (Heap.DictOfH.new (knd := nestedKind X.prog X.w) s.heap)), rfl, h _ (I.hok.fresh (Nat.le_refl _))⟩⟩
/-- a dict of this kind and a key for it -/
def AtN (X : Cx) (H : Hp) (x y : V) (a b : Addr) (q : NestedKey) (xs : NX) : Prop := x = .ref a ∧ y = .ref b ∧ H a = some (dNO X.w a xs) ∧ KeyAt X H q b ∧ ∀ x ∈ xs, KeyAt X H x.1 x.2.1
variable {o i e value : Expr} {pos pos' apos cpos : Pos} {td ty tv : TE}
def tNIn (X : Cx) (t : Bool) (ty td : TE) : TE := fun σ H Q => ty σ H fun y H1 => td σ H1 fun x H2 => ∃ a b q xs, AtN X H2 x y a b q xs ∧ Q (.bl ((atKey xs q).isSome == t)) H2
theorem pc_nin (hu : X.A.units + 20 < cLine) (hi : PE X i ty) (ho : PE X o td) : PC X .In i o (tNIn X true ty td) := by
  refine ⟨fun pins s σ H Q I h => ?_⟩
  refine thn (hi.run pins s σ H _ I h) fun iv s1 ⟨y, H1, I1, ry, q1⟩ => thn (ho.run pins s1 σ H1 _ I1 q1) fun u s2 ⟨x, H2, I2, rx, a, b, q, xs, ⟨ex, ey, ea, kb, ks⟩, q2⟩ => ?_
  subst ex ey
  obtain rfl : u = Value.ref a := rx
  obtain rfl : iv = Value.ref b := ry
  obtain ⟨z1, z2, dd⟩ := dN_at I2 ea ks
  exact wpAny_in_heap (knd := nestedKind X.prog X.w) (roomN hu) ⟨kb.2 _ _ _ I2, kb.1⟩ z1 dd ⟨.bl (atKey xs q).isSome, H2, I2.tok _, rfl, by rw [beq_true] at q2; exact q2⟩
theorem pc_nnin (hu : X.A.units + 20 < cLine) (hi : PE X i ty) (ho : PE X o td) : PC X .NotIn i o (tNIn X false ty td) := by
  refine ⟨fun pins s σ H Q I h => ?_⟩
  refine thn (hi.run pins s σ H _ I h) fun iv s1 ⟨y, H1, I1, ry, q1⟩ => thn (ho.run pins s1 σ H1 _ I1 q1) fun u s2 ⟨x, H2, I2, rx, a, b, q, xs, ⟨ex, ey, ea, kb, ks⟩, q2⟩ => ?_
  subst ex ey
  obtain rfl : u = Value.ref a := rx
  obtain rfl : iv = Value.ref b := ry
  obtain ⟨z1, z2, dd⟩ := dN_at I2 ea ks
  exact wpAny_notIn_heap (knd := nestedKind X.prog X.w) (roomN hu) ⟨kb.2 _ _ _ I2, kb.1⟩ z1 dd ⟨.bl (!(atKey xs q).isSome), H2, I2.tok _, rfl, by rw [beq_false] at q2; exact q2⟩
def tNGet (X : Cx) (td ty : TE) : TE := fun σ H Q => td σ H fun x H1 => ty σ H1 fun y H2 => ∃ a b q xs p v, AtN X H2 x y a b q xs ∧ atKey xs q = some p ∧ RelV v p.2 ∧ Q v H2
theorem pe_nget (hu : X.A.units + 20 < cLine) (ho : PE X o td) (hi : PE X i ty) (hs : NoSl i) : PE X (.Subscript o i pos) (tNGet X td ty) := by
  refine ⟨fun pins s σ H Q I h => ?_⟩
  refine subD_of PySem.F.slot_dict_getitem.lookup hs (thn (ho.run pins s σ H _ I h) fun u s1 ⟨x, H1, I1, rx, q1⟩ => thn (hi.run pins s1 σ H1 _ I1 q1) fun iv s2 ⟨y, H2, I2, ry, a, b, q, xs, p, v, ⟨ex, ey, ea, kb, ks⟩, hp, rv, q2⟩ => ?_)
  subst ex ey
  obtain rfl : u = Value.ref a := rx
  obtain rfl : iv = Value.ref b := ry
  obtain ⟨z1, z2, dd⟩ := dN_at I2 ea ks
  exact ⟨dd.typeIs, wpAny_getItem_heap (knd := nestedKind X.prog X.w) (roomN hu) ⟨kb.2 _ _ _ I2, kb.1⟩ dd hp ⟨v, H2, I2.tok _, rv, q2⟩⟩
theorem nwrite {h' : Heap} {t' : Nat} {xs' : NX} (I : Inv X pins σ H s) (ea : H a = some (dNO X.w a xs)) (z1 : (a == sysModules) = false) (sb : Heap.SameBut a s.heap h') (hl : xs'.length ≤ sizeLine) (d : h'.DictOfH (nestedKind X.prog X.w) a xs') :
    Inv X pins σ (upd H a (dNO X.w a xs')) { s with heap := h', toks := t' } :=
  I.write (e := a) (by rw [ea]; trivial) (.inl rfl) (fun c u hc hu => (sb.2 c hc).trans hu) (let ⟨o, _, _, e, _⟩ := d; ⟨o, e⟩) (dN_ok z1 hl d)
/-- d[k] = v -/
def sNPut (X : Cx) (td ty tv : TE) : TS := fun D σ H => tv σ H fun v H1 => td σ H1 fun x H2 => ty σ H2 fun y H3 => ∃ a b q xs, AtN X H3 x y a b q xs ∧ xs.length < sizeLine ∧ ∀ u, RelV v u → D.nx σ (upd H3 a (dNO X.w a (storedH xs q b u)))
theorem storedH_le (xs : NX) (q : NestedKey) (b : Addr) (u : Value) : (storedH xs q b u).length ≤ xs.length + 1 := by
  unfold storedH
  split
  · rw [List.length_map]; omega
  · rw [List.length_append]; exact Nat.le_refl _
theorem ps_nput (hu : X.A.units + 20 < cLine) (ho : PE X o td) (hi : PE X i ty) (hv : PE X value tv) (hs : swapsWith value (some (.Subscript o i pos')) pos.line X.env = pure false) :
    PS X (.Assign [.Subscript o i pos'] value pos) (sNPut X td ty tv) := by
  refine ⟨fun pins s σ H D I h => ?_⟩
  refine wpAny_Assign_Subscript (thn (hv.run pins s σ H _ I h) fun r s1 ⟨v, H1, I1, rv, q1⟩ => thn (ho.run pins s1 σ H1 _ I1 q1) fun u s2 ⟨x, H2, I2, rx, q2⟩ => thn (hi.run pins s2 σ H2 _ I2 q2) fun iv s3 ⟨y, H3, I3, ry, a, b, q, xs, ⟨ex, ey, ea, kb, ks⟩, hl, q3⟩ => ?_) hs
  subst ex ey
  obtain rfl : u = Value.ref a := rx
  obtain rfl : iv = Value.ref b := ry
  obtain ⟨z1, z2, dd⟩ := dN_at I3 ea ks
  exact wpAny_setItem_heap (knd := nestedKind X.prog X.w) (roomN hu) ⟨kb.2 _ _ _ I3, kb.1⟩ dd (fun h' d' sb => ⟨σ, _, nwrite I3 ea z1 sb (Nat.le_trans (storedH_le _ _ _ _) hl) d', q3 _ rv⟩) z2
/-- d.pop(k), there -/
def tNPop (X : Cx) (td ty : TE) : TE := fun σ H Q => td σ H fun x H1 => (∃ a xs, x = .ref a ∧ H1 a = some (dNO X.w a xs) ∧ ∀ x ∈ xs, KeyAt X H1 x.1 x.2.1) ∧ ty σ H1 fun y H2 => ∃ a b q xs p v, AtN X H2 x y a b q xs ∧ atKey xs q = some p ∧ RelV v p.2 ∧ Q v (upd H2 a (dNO X.w a (withoutH xs q)))
theorem pe_npop (hu : X.A.units + 20 < cLine) (ho : PE X o td) (he : PE X e ty) (m : M1 X o "pop" apos e cpos) : PE X (.Call (.Attribute o "pop" apos) [e] [] cpos) (tNPop X td ty) := by
  refine ⟨fun pins s σ H Q I h => ?_⟩
  refine wpAny_Call_method m.base m.few m.line PySem.F.plainAttrs_dict PySem.F.slot_dict_pop PySem.F.type_dict_pop (thn (ho.run pins s σ H _ I h) fun u s1 ⟨x, H1, I1, rx, ⟨a1, xs1, ex1, ea1, ks1⟩, q1⟩ => ?_)
  subst ex1
  obtain rfl : u = Value.ref a1 := rx
  obtain ⟨y1, y2, d1⟩ := dN_at I1 ea1 ks1
  refine ⟨d1.typeIs, fun c hc => ?_, ?_⟩
  · cases hc
    obtain ⟨o, _, _, e1, e2, _⟩ := d1
    exact ⟨o, e1, e2.2.1⟩
  rw [m.trees]
  refine Calls.callWith_builtin rfl (Calls.evalArgs_plain (Calls.spliced_cons (thn (he.run pins s1 σ H1 _ I1 q1) fun iv s2 ⟨y, H2, I2, ry, a, b, q, xs, p, v, ⟨ex, ey, ea, kb, ks⟩, hp, rv, q2⟩ => Calls.spliced_nil ?_)))
  subst ey
  cases ex
  obtain rfl : iv = Value.ref b := ry
  obtain ⟨z1, z2, dd⟩ := dN_at I2 ea ks
  exact call_pop_heap (knd := nestedKind X.prog X.w) (.inl rfl) (PySem.F.args_dict_pop_2 _ _) (roomN hu) ⟨kb.2 _ _ _ I2, kb.1⟩ z1 dd hp
    (fun h' d' sb => ⟨v, _, nwrite I2 ea z1 sb (Nat.le_trans (List.length_filter_le _ _) z2) d', rv, q2⟩) z2
end
end L2

/-! Fx: a def's body as a function on data: trees for what is never changed, numbered cells for lists that are. -/
namespace Fx
open PySem PySem.Spec PyProof.Rows L2

/-! ### data -/
inductive D where
  | non | bl (b : Bool) | int (i : Int) | str (x : Str) | tup (xs : List D) | lst (xs : List D) | cell (n : Nat) | ref (a : Addr) | pr (a b : D) | emp
inductive Cell where
  | lst (xs : List D) | dct (kvs : List (Key × D)) | obj (x : Str) (fs : List (Str × D)) | dctL (o : Obj) (us : List (Key × V)) (kvs : List (Key × D)) | dctN (wd : World) (kvs : List (NestedKey × D))
structure S where
  loc : List (Option D)
  vh : List Cell
structure Ex where
  cls : Str
  fs : List (Str × D)
inductive Res (α : Type) where
  | ok (a : α) (s : S) | exc (e : Ex) (s : S) | bad
abbrev M (α : Type) := S → Res α
def ret {α : Type} (a : α) : M α := fun s => .ok a s
def fail {α : Type} : M α := fun _ => .bad
def bnd {α β : Type} (m : M α) (k : α → M β) : M β := fun s => match m s with
  | .ok a s' => k a s'
  | .exc e s' => .exc e s'
  | .bad => .bad
mutual
def nkD : D → Option NestedKey
  | .non => some .none
  | .bl b => some (.num (if b = true then 1 else 0))
  | .int i => some (.num i)
  | .str x => some (.text x)
  | .tup ds => (nkL ds).map .tup
  | _ => none
def nkL : List D → Option (List NestedKey)
  | [] => some []
  | d :: r => match nkD d, nkL r with
    | some k, some ks => some (k :: ks)
    | _, _ => none
end
/-- data that stand in the abstract heap -/
structure Wd where
  ρ : List Addr
  F : Hp
def Wd.le (w w' : Wd) : Prop := (∀ (n : Nat) a, w.ρ[n]? = some a → w'.ρ[n]? = some a) ∧ ∀ a o, w.F a = some o → w'.F a = some o
theorem Wd.le.refl (w : Wd) : w.le w := ⟨fun _ _ h => h, fun _ _ h => h⟩
theorem Wd.le.trans {a b c : Wd} (x : a.le b) (y : b.le c) : a.le c := ⟨fun n q h => y.1 n q (x.1 n q h), fun q o h => y.2 q o (x.2 q o h)⟩
/-- a tuple that has no dict of its own -/
def TupC (F : Hp) (a : Addr) (vs : List V) : Prop := ∃ o : Obj, F a = some (.frz o (.tup vs)) ∧ o.dict = none
section
variable (K : PySem.W.Frag)
mutual
inductive Rep : Wd → V → D → Prop
  | non {w : Wd} : Rep w .non .non
  | bl {w : Wd} (b : Bool) : Rep w (.bl b) (.bl b)
  | int {w : Wd} (i : Int) : Rep w (.int i) (.int i)
  | str {w : Wd} (x : Str) : Rep w (.str x) (.str x)
  | ref {w : Wd} (a : Addr) : Rep w (.ref a) (.ref a)
  | tup {w : Wd} {a : Addr} {vs : List V} {ds : List D} (h : TupC w.F a vs) (t : RepL w vs ds) : Rep w (.ref a) (.tup ds)
  | pr {w : Wd} {a : Addr} {v u : V} {d e : D} (h : SqT K w.F a [v, u]) (r : Rep w v d) (q : Rep w u e) : Rep w (.ref a) (.pr d e)
  | emp {w : Wd} {a : Addr} (h : w.F a = some (.dK [])) : Rep w (.ref a) .emp
  | lst {w : Wd} {a : Addr} {vs : List V} {ds : List D} (h : SqL K w.F a vs) (t : RepL w vs ds) : Rep w (.ref a) (.lst ds)
  | cell {w : Wd} {a : Addr} {n : Nat} (h : w.ρ[n]? = some a) : Rep w (.ref a) (.cell n)
inductive RepL : Wd → List V → List D → Prop
  | nil {w : Wd} : RepL w [] []
  | cons {w : Wd} {v : V} {d : D} {vs : List V} {ds : List D} (h : Rep w v d) (t : RepL w vs ds) : RepL w (v :: vs) (d :: ds)
end
inductive RepK : Wd → List (Key × V) → List (Key × D) → Prop
  | nil {w : Wd} : RepK w [] []
  | cons {w : Wd} {k : Key} {v : V} {d : D} {vs : List (Key × V)} {ds : List (Key × D)} (h : Rep K w v d) (t : RepK w vs ds) : RepK w ((k, v) :: vs) ((k, d) :: ds)
inductive RepF : Wd → List (Str × V) → List (Str × D) → Prop
  | nil {w : Wd} : RepF w [] []
  | cons {w : Wd} {k : Str} {v : V} {d : D} {vs : List (Str × V)} {ds : List (Str × D)} (h : Rep K w v d) (t : RepF w vs ds) : RepF w ((k, v) :: vs) ((k, d) :: ds)
inductive RepN : Wd → NX → List (NestedKey × D) → Prop
  | nil {w : Wd} : RepN w [] []
  | cons {w : Wd} {q : NestedKey} {b : Addr} {u : Value} {kd : D} {v : V} {d : D} {xs : NX} {ds : List (NestedKey × D)} (hk : nkD kd = some q) (hq : q.depth ≤ 8) (r : Rep K w (.ref b) kd) (ru : RelV v u) (h : Rep K w v d) (t : RepN w xs ds) : RepN w ((q, b, u) :: xs) ((q, d) :: ds)
def CellIs (w : Wd) (H : Hp) (a : Addr) : Cell → Prop
  | .dctN wd kvs => ∃ xs, H a = some (dNO wd a xs) ∧ RepN K w xs kvs
  | .lst ds => ∃ vs, H a = some (.lst vs) ∧ RepL K w vs ds
  | .dct kvs => ∃ vs, H a = some (.dK vs) ∧ RepK K w vs kvs
  | .obj x fs => ∃ C dx vs, PySem.W.nsIn K mainGlobals x = some (some (.ref C)) ∧ H a = some (.ins C dx vs) ∧ RepF K w vs fs
  | .dctL o us kvs => H a = some (.frz o (.dK us)) ∧ RepK K w us kvs
structure RS (w : Wd) (H : Hp) (σ : L2.St) (s : S) : Prop where
  sub : ∀ a o, w.F a = some o → H a = some o
  len : σ.length = s.loc.length
  loc : ∀ (i : Nat) d, s.loc[i]? = some (some d) → ∃ v, σ[i]? = some (some v) ∧ Rep K w v d
  cl : w.ρ.length = s.vh.length
  nd : w.ρ.Nodup
  out : ∀ a ∈ w.ρ, w.F a = none
  cells : ∀ (n : Nat) a c, w.ρ[n]? = some a → s.vh[n]? = some c → CellIs K w H a c
end
section
variable {K : PySem.W.Frag} {w w' : Wd} {H H' : Hp} {σ : L2.St} {s s' : S}
theorem TupC.up {F F' : Hp} (h : ∀ a o, F a = some o → F' a = some o) {a : Addr} {vs : List V} (x : TupC F a vs) : TupC F' a vs := let ⟨o, e, d⟩ := x; ⟨o, h _ _ e, d⟩
theorem TupC.sq {F : Hp} {a : Addr} {vs : List V} (x : TupC F a vs) : SqT K F a vs := let ⟨o, e, _⟩ := x; .inl (.inr ⟨o, e⟩)
theorem sqT_up {F F' : Hp} (h : ∀ a o, F a = some o → F' a = some o) {a : Addr} {vs : List V} (x : SqT K F a vs) : SqT K F' a vs := by
  rcases x with (x | ⟨o, x⟩) | x
  · exact .inl (.inl (h _ _ x))
  · exact .inl (.inr ⟨o, h _ _ x⟩)
  · exact .inr x
theorem rd_up {F F' : Hp} (h : ∀ a o, F a = some o → F' a = some o) {a : Addr} {u : HO} (x : L2.Rd F a u) : L2.Rd F' a u := by
  rcases x with x | ⟨o, x⟩
  · exact .inl (h _ _ x)
  · exact .inr ⟨o, h _ _ x⟩
theorem sqL_up {F F' : Hp} (h : ∀ a o, F a = some o → F' a = some o) {a : Addr} {vs : List V} (x : SqL K F a vs) : SqL K F' a vs := by
  rcases x with (x | ⟨o, x⟩) | x
  · exact .inl (.inl (h _ _ x))
  · exact .inl (.inr ⟨o, h _ _ x⟩)
  · exact .inr x
mutual
theorem Rep.upW (l : w.le w') : ∀ {v : V} {d : D}, Rep K w v d → Rep K w' v d
  | _, _, .non => .non
  | _, _, .bl b => .bl b
  | _, _, .int i => .int i
  | _, _, .str x => .str x
  | _, _, .ref a => .ref a
  | _, _, .tup h t => .tup (h.up l.2) (RepL.upW l t)
  | _, _, .pr h r q => .pr (sqT_up l.2 h) (Rep.upW l r) (Rep.upW l q)
  | _, _, .emp h => .emp (l.2 _ _ h)
  | _, _, .lst h t => .lst (sqL_up l.2 h) (RepL.upW l t)
  | _, _, .cell h => .cell (l.1 _ _ h)
theorem RepL.upW (l : w.le w') : ∀ {vs : List V} {ds : List D}, RepL K w vs ds → RepL K w' vs ds
  | _, _, .nil => .nil
  | _, _, .cons h t => .cons (Rep.upW l h) (RepL.upW l t)
end
theorem RepK.upW (l : w.le w') : ∀ {vs : List (Key × V)} {ds : List (Key × D)}, RepK K w vs ds → RepK K w' vs ds
  | _, _, .nil => .nil
  | _, _, .cons h t => .cons (h.upW l) (RepK.upW l t)
theorem RepF.upW (l : w.le w') : ∀ {vs : List (Str × V)} {ds : List (Str × D)}, RepF K w vs ds → RepF K w' vs ds
  | _, _, .nil => .nil
  | _, _, .cons h t => .cons (h.upW l) (RepF.upW l t)
theorem RepN.upW (l : w.le w') : ∀ {xs : NX} {ds : List (NestedKey × D)}, RepN K w xs ds → RepN K w' xs ds
  | _, _, .nil => .nil
  | _, _, .cons hk hq r ru h t => .cons hk hq (r.upW l) ru (h.upW l) (RepN.upW l t)
theorem RepL.length : ∀ {vs : List V} {ds : List D}, RepL K w vs ds → vs.length = ds.length
  | _, _, .nil => rfl
  | _, _, .cons _ t => by simp only [List.length_cons]; rw [RepL.length t]
theorem RepL.get : ∀ {vs : List V} {ds : List D} {i : Nat} {d : D}, RepL K w vs ds → ds[i]? = some d → ∃ v, vs[i]? = some v ∧ Rep K w v d
  | _, _, i, d, .nil, e => by simp at e
  | _, _, 0, d, .cons h t, e => by simp at e; subst e; exact ⟨_, rfl, h⟩
  | _, _, i + 1, d, .cons h t, e => by
    obtain ⟨v, h1, h2⟩ := RepL.get (i := i) (d := d) t (by simpa using e)
    exact ⟨v, by simpa using h1, h2⟩
theorem RepL.get' : ∀ {vs : List V} {ds : List D} {i : Nat} {v : V}, RepL K w vs ds → vs[i]? = some v → ∃ d, ds[i]? = some d ∧ Rep K w v d
  | _, _, i, d, .nil, e => by simp at e
  | _, _, 0, d, .cons h t, e => by simp at e; subst e; exact ⟨_, rfl, h⟩
  | _, _, i + 1, d, .cons h t, e => by
    obtain ⟨v, h1, h2⟩ := RepL.get' (i := i) (v := d) t (by simpa using e)
    exact ⟨v, by simpa using h1, h2⟩
theorem RepL.append : ∀ {vs us : List V} {ds es : List D}, RepL K w vs ds → RepL K w us es → RepL K w (vs ++ us) (ds ++ es)
  | _, _, _, _, .nil, s => s
  | _, _, _, _, .cons r t, s => .cons r (RepL.append t s)
theorem RepL.take : ∀ {vs : List V} {ds : List D} (n : Nat), RepL K w vs ds → RepL K w (vs.take n) (ds.take n)
  | _, _, 0, _ => .nil
  | _, _, _ + 1, .nil => .nil
  | _, _, n + 1, .cons r t => .cons r (RepL.take n t)
theorem RepL.drop : ∀ {vs : List V} {ds : List D} (n : Nat), RepL K w vs ds → RepL K w (vs.drop n) (ds.drop n)
  | _, _, 0, r => r
  | _, _, _ + 1, .nil => .nil
  | _, _, n + 1, .cons _ t => RepL.drop n t
theorem RepL.set {v : V} {d : D} (r : Rep K w v d) : ∀ {vs : List V} {ds : List D} (i : Nat), RepL K w vs ds → RepL K w (vs.set i v) (ds.set i d)
  | _, _, _, .nil => .nil
  | _, _, 0, .cons _ t => .cons r t
  | _, _, i + 1, .cons q t => .cons q (RepL.set r i t)
theorem CellIs.upW (l : w.le w') {a : Addr} {c : Cell} (e : H' a = H a) (h : CellIs K w H a c) : CellIs K w' H' a c := by
  cases c with
  | lst ds => obtain ⟨vs, h1, h2⟩ := h; exact ⟨vs, by rw [e]; exact h1, h2.upW l⟩
  | dct kvs => obtain ⟨vs, h1, h2⟩ := h; exact ⟨vs, by rw [e]; exact h1, h2.upW l⟩
  | obj x fs => obtain ⟨C, dx, vs, h0, h1, h2⟩ := h; exact ⟨C, dx, vs, h0, by rw [e]; exact h1, h2.upW l⟩
  | dctL o us kvs => obtain ⟨h1, h2⟩ := h; exact ⟨by rw [e]; exact h1, h2.upW l⟩
  | dctN wd kvs => obtain ⟨xs, h1, h2⟩ := h; exact ⟨xs, by rw [e]; exact h1, h2.upW l⟩
theorem CellIs.there {a : Addr} {c : Cell} (h : CellIs K w H a c) : ∃ o, H a = some o := by
  cases c with
  | lst ds => obtain ⟨vs, h1, _⟩ := h; exact ⟨_, h1⟩
  | dct kvs => obtain ⟨vs, h1, _⟩ := h; exact ⟨_, h1⟩
  | obj x fs => obtain ⟨C, dx, vs, _, h1, _⟩ := h; exact ⟨_, h1⟩
  | dctL o us kvs => exact ⟨_, h.1⟩
  | dctN wd kvs => obtain ⟨xs, h1, _⟩ := h; exact ⟨_, h1⟩
theorem RS.cellOf (R : RS K w H σ s) {n : Nat} {a : Addr} (h : w.ρ[n]? = some a) : ∃ c, s.vh[n]? = some c ∧ CellIs K w H a c := by
  have hn : n < w.ρ.length := (List.getElem?_eq_some_iff.mp h).1
  have hm : n < s.vh.length := by rw [← R.cl]; exact hn
  exact ⟨s.vh[n], List.getElem?_eq_getElem hm, R.cells n a _ h (List.getElem?_eq_getElem hm)⟩
theorem RS.addrOf (R : RS K w H σ s) {n : Nat} {c : Cell} (h : s.vh[n]? = some c) : ∃ a, w.ρ[n]? = some a ∧ CellIs K w H a c := by
  have hn : n < s.vh.length := (List.getElem?_eq_some_iff.mp h).1
  have hm : n < w.ρ.length := by rw [R.cl]; exact hn
  exact ⟨w.ρ[n], List.getElem?_eq_getElem hm, R.cells n _ _ (List.getElem?_eq_getElem hm) h⟩
theorem RS.fresh (R : RS K w H σ s) {p : Addr} (hp : H p = none) : w.F p = none ∧ p ∉ w.ρ := by
  refine ⟨?_, fun hm => ?_⟩
  · cases q : w.F p with
    | none => rfl
    | some o => rw [R.sub p o q] at hp; cases hp
  · obtain ⟨n, hn, e⟩ := List.mem_iff_getElem.mp hm
    obtain ⟨c, _, hc⟩ := R.cellOf (n := n) (a := p) (by rw [List.getElem?_eq_getElem hn, e])
    obtain ⟨o, ho⟩ := hc.there
    rw [ho] at hp; cases hp
theorem RS.ne (R : RS K w H σ s) {p a : Addr} {n : Nat} (hp : H p = none) (h : w.ρ[n]? = some a) : a ≠ p := by
  intro e; subst e
  exact (R.fresh hp).2 (List.mem_of_getElem? h)
/-- something new is laid, that will not change -/
def Wd.frz (w : Wd) (p : Addr) (o : HO) : Wd := ⟨w.ρ, upd w.F p o⟩
theorem Wd.frz_le {p : Addr} {o : HO} (h : w.F p = none) : w.le (w.frz p o) := ⟨fun _ _ e => e, fun a q e => by
  show upd w.F p o a = some q
  rw [upd_ne (ne_of_none e h)]; exact e⟩
theorem RS.lay (R : RS K w H σ s) {p : Addr} {o : HO} (hp : H p = none) : RS K (w.frz p o) (upd H p o) σ s := by
  have f := R.fresh hp
  have le := Wd.frz_le (o := o) f.1
  refine ⟨fun a q e => ?_, R.len, fun i d e => ?_, R.cl, R.nd, fun a ha => ?_, fun n a c e1 e2 => ?_⟩
  · have e : upd w.F p o a = some q := e
    by_cases h : a = p
    · subst h; rw [upd_same] at e ⊢; exact e
    · rw [upd_ne h] at e ⊢; exact R.sub a q e
  · obtain ⟨v, h1, h2⟩ := R.loc i d e
    exact ⟨v, h1, h2.upW le⟩
  · show upd w.F p o a = none
    rw [upd_ne (fun (e : a = p) => f.2 (e ▸ ha))]; exact R.out a ha
  · exact (R.cells n a c e1 e2).upW le (upd_ne (R.ne hp e1))
/-- something new is laid that stands by itself (a cell) -/
def Wd.own (w : Wd) (p : Addr) : Wd := ⟨w.ρ ++ [p], w.F⟩
theorem Wd.own_le {p : Addr} : w.le (w.own p) := ⟨fun n a e => by
  show (w.ρ ++ [p])[n]? = some a
  rw [List.getElem?_append_left (List.getElem?_eq_some_iff.mp e).1]; exact e, fun _ _ e => e⟩
theorem RS.addCell (R : RS K w H σ s) {p : Addr} {c : Cell} (hf : w.F p = none) (hr : p ∉ w.ρ) (hc : CellIs K w H p c) : RS K (w.own p) H σ { s with vh := s.vh ++ [c] } := by
  refine ⟨R.sub, R.len, fun i d e => ?_, ?_, ?_, fun a ha => ?_, fun n a c' e1 e2 => ?_⟩
  · obtain ⟨v, h1, h2⟩ := R.loc i d e
    exact ⟨v, h1, h2.upW Wd.own_le⟩
  · show (w.ρ ++ [p]).length = (s.vh ++ [c]).length
    rw [List.length_append, List.length_append, R.cl]; rfl
  · show (w.ρ ++ [p]).Nodup
    rw [List.nodup_append]
    refine ⟨R.nd, by simp, fun a ha b hb => ?_⟩
    rw [List.mem_singleton] at hb; subst hb
    intro e; subst e; exact hr ha
  · rcases List.mem_append.mp ha with h | h
    · exact R.out a h
    · rw [List.mem_singleton] at h; subst h; exact hf
  · have e1 : (w.ρ ++ [p])[n]? = some a := e1
    have e2 : (s.vh ++ [c])[n]? = some c' := e2
    by_cases hn : n < w.ρ.length
    · rw [List.getElem?_append_left hn] at e1
      rw [List.getElem?_append_left (by rw [← R.cl]; exact hn)] at e2
      exact (R.cells n a c' e1 e2).upW Wd.own_le rfl
    · have hn' : n < w.ρ.length + 1 := by
        have := (List.getElem?_eq_some_iff.mp e1).1
        rw [List.length_append] at this; exact this
      have en : n = w.ρ.length := by omega
      subst en
      rw [List.getElem?_append_right (Nat.le_refl _), Nat.sub_self] at e1
      rw [R.cl, List.getElem?_append_right (Nat.le_refl _), Nat.sub_self] at e2
      cases e1; cases e2
      exact hc.upW Wd.own_le rfl
/-- a cell changes -/
theorem RS.setCell (R : RS K w H σ s) {n : Nat} {a : Addr} {c : Cell} {o : HO} (h : w.ρ[n]? = some a) (hc : CellIs K w (upd H a o) a c) : RS K w (upd H a o) σ { s with vh := s.vh.set n c } := by
  have fa : w.F a = none := R.out a (List.mem_of_getElem? h)
  refine ⟨fun b q e => ?_, R.len, R.loc, by rw [List.length_set]; exact R.cl, R.nd, R.out, fun m b c' e1 e2 => ?_⟩
  · rw [upd_ne (ne_of_none e fa)]; exact R.sub b q e
  · by_cases hm : m = n
    · subst hm
      rw [h] at e1; cases e1
      have hl : m < s.vh.length := by rw [← R.cl]; exact (List.getElem?_eq_some_iff.mp h).1
      rw [List.getElem?_set_self hl] at e2; cases e2
      exact hc
    · rw [List.getElem?_set_ne (Ne.symm hm)] at e2
      have hb : b ≠ a := fun e => by
        subst e
        have h1 := List.getElem?_eq_some_iff.mp e1
        have h2 := List.getElem?_eq_some_iff.mp h
        exact hm ((List.getElem_inj R.nd).mp (h1.2.trans h2.2.symm))
      exact (R.cells m b c' e1 e2).upW (Wd.le.refl w) (upd_ne hb)
theorem RS.set (R : RS K w H σ s) {i : Nat} {v : V} {d : D} (r : Rep K w v d) : RS K w H (σ.set i (some v)) { s with loc := s.loc.set i (some d) } := by
  refine ⟨R.sub, by rw [List.length_set, List.length_set]; exact R.len, fun j e h => ?_, R.cl, R.nd, R.out, R.cells⟩
  by_cases hj : j = i
  · subst hj
    have hl : j < s.loc.length := by
      have := (List.getElem?_eq_some_iff.mp h).1
      rw [List.length_set] at this; exact this
    rw [List.getElem?_set_self hl] at h; cases h
    exact ⟨v, List.getElem?_set_self (by rw [R.len]; exact hl), r⟩
  · rw [List.getElem?_set_ne (Ne.symm hj)] at h ⊢
    exact R.loc j e h
/-- other slots, the same heap -/
theorem RS.other {σ' : L2.St} {l : List (Option D)} (R : RS K w H σ s) (hl : σ'.length = l.length) (h : ∀ (i : Nat) d, l[i]? = some (some d) → ∃ v, σ'[i]? = some (some v) ∧ Rep K w v d) : RS K w H σ' { s with loc := l } :=
  ⟨R.sub, hl, h, R.cl, R.nd, R.out, R.cells⟩
end

/-! ### from one state to a later one -/
structure Le (w : Wd) (H : Hp) (w' : Wd) (H' : Hp) : Prop where
  le : w.le w'
  keep : ∀ a o, H a = some o → a ∉ w.ρ → H' a = some o
  newρ : ∀ a, a ∈ w'.ρ → a ∈ w.ρ ∨ H a = none
  newF : ∀ a o, w'.F a = some o → w.F a = some o ∨ H a = none ∨ a ∈ w.ρ
section
variable {K : PySem.W.Frag} {w w' w1 w2 : Wd} {H H' H1 H2 : Hp} {σ : L2.St} {s : S}
theorem Le.refl (w : Wd) (H : Hp) : Le w H w H := ⟨Wd.le.refl w, fun _ _ h _ => h, fun _ h => .inl h, fun _ _ h => .inl h⟩
theorem mem_up (l : w.le w') {a : Addr} (h : a ∈ w.ρ) : a ∈ w'.ρ := by
  obtain ⟨n, hn, e⟩ := List.mem_iff_getElem.mp h
  exact List.mem_of_getElem? (l.1 n a (by rw [List.getElem?_eq_getElem hn, e]))
theorem Le.back (l : Le w H w1 H1) {a : Addr} (h : H1 a = none) : H a = none ∨ a ∈ w.ρ := by
  cases e : H a with
  | none => exact .inl rfl
  | some o =>
    by_cases ha : a ∈ w.ρ
    · exact .inr ha
    · rw [l.keep a o e ha] at h; cases h
theorem Le.trans (x : Le w H w1 H1) (y : Le w1 H1 w2 H2) : Le w H w2 H2 := by
  refine ⟨x.le.trans y.le, fun a o e h => ?_, fun a h => ?_, fun a o h => ?_⟩
  · refine y.keep a o (x.keep a o e h) fun h1 => ?_
    rcases x.newρ a h1 with h2 | h2
    · exact h h2
    · rw [e] at h2; cases h2
  · rcases y.newρ a h with h1 | h1
    · exact x.newρ a h1
    · rcases x.back h1 with h2 | h2
      · exact .inr h2
      · exact .inl h2
  · rcases y.newF a o h with h1 | h1 | h1
    · exact x.newF a o h1
    · rcases x.back h1 with h2 | h2
      · exact .inr (.inl h2)
      · exact .inr (.inr h2)
    · rcases x.newρ a h1 with h2 | h2
      · exact .inr (.inr h2)
      · exact .inr (.inl h2)
theorem Rep.up (l : Le w H w' H') {v : V} {d : D} (h : Rep K w v d) : Rep K w' v d := h.upW l.le
theorem RepL.up (l : Le w H w' H') {v : List V} {d : List D} (h : RepL K w v d) : RepL K w' v d := h.upW l.le
theorem RepK.up (l : Le w H w' H') {v : List (Key × V)} {d : List (Key × D)} (h : RepK K w v d) : RepK K w' v d := h.upW l.le
theorem Le.laid {p : Addr} {o : HO} (hp : H p = none) : Le w H w (upd H p o) := ⟨Wd.le.refl w, fun a q e _ => by rw [upd_ne (ne_of_none e hp)]; exact e, fun _ h => .inl h, fun _ _ h => .inl h⟩
theorem Le.lay {p : Addr} {o : HO} (hp : H p = none) (hf : w.F p = none) : Le w H (w.frz p o) (upd H p o) := ⟨Wd.frz_le hf, fun a q e _ => by rw [upd_ne (ne_of_none e hp)]; exact e, fun _ h => .inl h, fun a q h => by
  by_cases e : a = p
  · subst e; exact .inr (.inl hp)
  · have h : upd w.F p o a = some q := h
    rw [upd_ne e] at h; exact .inl h⟩
/-- a tracked thing that was new is frozen | becomes a cell -/
theorem Le.frz {p : Addr} {o : HO} (l : Le w H w1 H1) (hp : H p = none) (hf : w1.F p = none) : Le w H (w1.frz p o) H1 := ⟨l.le.trans (Wd.frz_le hf), l.keep, l.newρ, fun a q h => by
  by_cases e : a = p
  · subst e; exact .inr (.inl hp)
  · have h : upd w1.F p o a = some q := h
    rw [upd_ne e] at h; exact l.newF a q h⟩
theorem Le.own {p : Addr} (l : Le w H w1 H1) (hp : H p = none) : Le w H (w1.own p) H1 := ⟨l.le.trans Wd.own_le, l.keep, fun a h => by
  rcases List.mem_append.mp h with h | h
  · exact l.newρ a h
  · rw [List.mem_singleton] at h; subst h; exact .inr hp, l.newF⟩
theorem Le.write {a : Addr} {o : HO} (h : a ∈ w.ρ) : Le w H w (upd H a o) := ⟨Wd.le.refl w, fun b q e hb => by
  have hne : b ≠ a := fun (z : b = a) => hb (z ▸ h)
  rw [upd_ne hne]; exact e, fun _ h => .inl h, fun _ _ h => .inl h⟩
end
/-! ### what is wanted behind a step -/
abbrev WX := Ex → Wd → Hp → L2.St → Prop
def W0 : WX := fun _ _ _ _ => False
/-- how a result is told: by the heap ahead, the state behind -/
structure Pr (ν α : Type) where
  p : Hp → Wd → Hp → ν → α → Prop
  mono : ∀ (w : Wd) H w1 H1 w' H' v a, Le w H w1 H1 → w1.le w' → p H1 w' H' v a → p H w' H' v a
section
variable (K : PySem.W.Frag) (W : WX)
def Post {α ν : Type} (P : Pr ν α) (w : Wd) (H : Hp) (σ : L2.St) (r : Res α) (Q : ν → Hp → Prop) : Prop := match r with
  | .ok a s => ∀ w' H' v, Le w H w' H' → RS K w' H' σ s → P.p H w' H' v a → Q v H'
  | .exc e s => ∀ w' H', Le w H w' H' → RS K w' H' σ s → W e w' H' σ
  | .bad => False
/-- the reading t does what f says -/
def Fol {α ν : Type} (P : Pr ν α) (t : L2.St → Hp → (ν → Hp → Prop) → Prop) (f : M α) : Prop :=
  ∀ w H σ s Q, RS K w H σ s → Post K W P w H σ (f s) Q → t σ H Q
@[reducible] def pD : Pr V D := ⟨fun _ w _ v d => Rep K w v d, fun _ _ _ _ _ _ _ _ _ _ h => h⟩
@[reducible] def pL : Pr (List V) (List D) := ⟨fun _ w _ v d => RepL K w v d, fun _ _ _ _ _ _ _ _ _ _ h => h⟩
@[reducible] def pB : Pr Bool Bool := ⟨fun _ _ _ a b => a = b, fun _ _ _ _ _ _ _ _ _ _ h => h⟩
/-- a new object that nothing else knows -/
structure New (H : Hp) (w : Wd) (H' : Hp) (p : Addr) (c : Cell) : Prop where
  f : w.F p = none
  r : p ∉ w.ρ
  c : CellIs K w H' p c
  n : H p = none
@[reducible] def pN : Pr V Cell := ⟨fun H w H' v c => ∃ p, v = .ref p ∧ New K H w H' p c, fun w H w1 H1 w' H' v a l l' ⟨p, e, h⟩ => ⟨p, e, h.f, h.r, h.c, by
  rcases l.back h.n with z | z
  · exact z
  · exact (h.r (mem_up (l.le.trans l') z)).elim⟩⟩
end
section
variable {K : PySem.W.Frag} {W : WX} {α β ν μ : Type} {P : Pr ν α} {P2 : Pr μ β} {w w1 : Wd} {H H1 : Hp} {σ : L2.St} {s : S}
theorem Post.up {r : Res α} {Q : ν → Hp → Prop} (l : Le w H w1 H1) (h : Post K W P w H σ r Q) : Post K W P w1 H1 σ r Q := by
  cases r with
  | ok a s => exact fun w' H' v l' R p => h w' H' v (l.trans l') R (P.mono w H w1 H1 w' H' v a l l'.le p)
  | exc e s => exact fun w' H' l' R => h w' H' (l.trans l') R
  | bad => exact h
theorem Post.bnd {m : M α} {k : α → M β} {Q : ν → Hp → Prop} {Q2 : μ → Hp → Prop} (h : Post K W P2 w H σ (bnd m k s) Q2)
    (f : ∀ a s' w' H' v, Le w H w' H' → RS K w' H' σ s' → P.p H w' H' v a → Post K W P2 w' H' σ (k a s') Q2 → Q v H') : Post K W P w H σ (m s) Q := by
  unfold Fx.bnd at h
  cases e : m s with
  | ok a s' => rw [e] at h; exact fun w' H' v l R p => f a s' w' H' v l R p (h.up l)
  | exc x s' => rw [e] at h; exact h
  | bad => rw [e] at h; exact h
theorem Fol.bnd {t : L2.St → Hp → (ν → Hp → Prop) → Prop} {f : M α} {k : α → M β} {Q2 : μ → Hp → Prop} {Q : ν → Hp → Prop} (h : Fol K W P t f) (R : RS K w H σ s) (p : Post K W P2 w H σ (Fx.bnd f k s) Q2)
    (g : ∀ a s' w' H' v, Le w H w' H' → RS K w' H' σ s' → P.p H w' H' v a → Post K W P2 w' H' σ (k a s') Q2 → Q v H') : t σ H Q := h w H σ s Q R (p.bnd g)
end
end Fx

namespace Fx
open PySem PySem.Spec PyProof.Rows L2
/-! ### reading data -/
def lstOf (s : S) : D → Option (List D)
  | .lst ds => some ds
  | .cell n => match s.vh[n]? with
    | some (.lst ds) => some ds
    | _ => none
  | _ => none
def tupOf : D → Option (List D)
  | .tup ds => some ds
  | _ => none
def dctOf (s : S) : D → Option (List (Key × D))
  | .cell n => match s.vh[n]? with
    | some (.dct ds) => some ds
    | _ => none
  | _ => none
section
variable {K : PySem.W.Frag} {W : WX} {w : Wd} {H : Hp} {σ : L2.St} {s : S} {v : V} {d : D}
theorem RS.list (R : RS K w H σ s) (r : Rep K w v d) {ds : List D} (h : lstOf s d = some ds) : ∃ a vs, v = .ref a ∧ SqL K H a vs ∧ RepL K w vs ds := by
  cases r with
  | lst h1 t =>
    cases h
    exact ⟨_, _, rfl, sqL_up R.sub h1, t⟩
  | cell h1 =>
    obtain ⟨c, e, hc⟩ := R.cellOf h1
    unfold lstOf at h
    simp only [e] at h
    cases c with
    | lst xs => simp at h; subst h; obtain ⟨vs, h2, h3⟩ := hc; exact ⟨_, _, rfl, SqL.of h2, h3⟩
    | dct _ => simp at h
    | obj _ _ => simp at h
    | dctL _ _ _ => simp at h
    | dctN _ _ => simp at h
  | _ => simp [lstOf] at h
theorem RS.tuple (R : RS K w H σ s) (r : Rep K w v d) {ds : List D} (h : tupOf d = some ds) : ∃ a vs, v = .ref a ∧ SqT K H a vs ∧ RepL K w vs ds := by
  cases r with
  | tup h1 t =>
    cases h
    exact ⟨_, _, rfl, sqT_up R.sub h1.sq, t⟩
  | _ => simp [tupOf] at h
theorem RS.dict (R : RS K w H σ s) (r : Rep K w v d) {ds : List (Key × D)} (h : dctOf s d = some ds) : ∃ a vs, v = .ref a ∧ H a = some (.dK vs) ∧ RepK K w vs ds := by
  cases r with
  | cell h1 =>
    obtain ⟨c, e, hc⟩ := R.cellOf h1
    unfold dctOf at h
    simp only [e] at h
    cases c with
    | lst xs => simp at h
    | dct _ => simp at h; subst h; obtain ⟨vs, h2, h3⟩ := hc; exact ⟨_, _, rfl, h2, h3⟩
    | obj _ _ => simp at h
    | dctL _ _ _ => simp at h
    | dctN _ _ => simp at h
  | _ => simp [dctOf] at h
/-- a new list that will not change -/
theorem RS.newL (R : RS K w H σ s) {p : Addr} {vs : List V} {ds : List D} (hp : H p = none) (r : RepL K w vs ds) :
    Le w H (w.frz p (.lst vs)) (upd H p (.lst vs)) ∧ RS K (w.frz p (.lst vs)) (upd H p (.lst vs)) σ s ∧ Rep K (w.frz p (.lst vs)) (.ref p) (.lst ds) := by
  have l := Le.lay (o := .lst vs) hp (R.fresh hp).1
  exact ⟨l, R.lay hp, .lst (SqL.of upd_same) (r.up l)⟩
theorem RS.newT (R : RS K w H σ s) {p : Addr} {vs : List V} {ds : List D} {o : Obj} (hp : H p = none) (r : RepL K w vs ds) (ho : o.dict = none) :
    Le w H (w.frz p (.frz o (.tup vs))) (upd H p (.frz o (.tup vs))) ∧ RS K (w.frz p (.frz o (.tup vs))) (upd H p (.frz o (.tup vs))) σ s ∧ Rep K (w.frz p (.frz o (.tup vs))) (.ref p) (.tup ds) := by
  have l := Le.lay (o := .frz o (.tup vs)) hp (R.fresh hp).1
  exact ⟨l, R.lay hp, .tup ⟨o, upd_same, ho⟩ (r.up l)⟩
theorem RS.newP (R : RS K w H σ s) {p : Addr} {v u : V} {d e : D} (hp : H p = none) (r : Rep K w v d) (q : Rep K w u e) :
    Le w H (w.frz p (.tup [v, u])) (upd H p (.tup [v, u])) ∧ RS K (w.frz p (.tup [v, u])) (upd H p (.tup [v, u])) σ s ∧ Rep K (w.frz p (.tup [v, u])) (.ref p) (.pr d e) := by
  have l := Le.lay (o := .tup [v, u]) hp (R.fresh hp).1
  exact ⟨l, R.lay hp, .pr (.inl (.inl upd_same)) (r.up l) (q.up l)⟩
/-- a new object, its use still open -/
theorem RS.laid (R : RS K w H σ s) {p : Addr} {o : HO} (hp : H p = none) : RS K w (upd H p o) σ s := by
  have f := R.fresh hp
  refine ⟨fun a q e => ?_, R.len, R.loc, R.cl, R.nd, R.out, fun n a c e1 e2 => (R.cells n a c e1 e2).upW (Wd.le.refl w) (upd_ne (R.ne hp e1))⟩
  rw [upd_ne (ne_of_none e f.1)]; exact R.sub a q e
end
/-! ### the judgements -/
variable {X : Cx} {W : WX}
def DE (X : Cx) (W : WX) (e : Expr) (f : M D) : Prop := ∃ t, PE X e t ∧ Fol X.K W (pD X.K) t f
def DN (X : Cx) (W : WX) (e : Expr) (f : M Cell) : Prop := ∃ t, PE X e t ∧ Fol X.K W (pN X.K) t f
def DT (X : Cx) (W : WX) (e : Expr) (f : M Bool) : Prop := ∃ t, PT X e t ∧ Fol X.K W pB t f
def DA (X : Cx) (W : WX) (es : List Expr) (f : M (List D)) : Prop := ∃ t, PA X es t ∧ Fol X.K W (pL X.K) t f
section
variable {K : PySem.W.Frag} {α ν : Type} {P : Pr ν α} {w : Wd} {σ : L2.St} {s : S} {H : Hp}
theorem Post.here {a : α} {v : ν} {Q : ν → Hp → Prop} (h : Post K W P w H σ (ret a s) Q) (R : RS K w H σ s) (p : P.p H w H v a) : Q v H := h w H v (Le.refl w H) R p
end
/-! ### names, constants -/
def getL (i : Nat) : M D := fun s => match s.loc[i]? with
  | some (some d) => .ok d s
  | _ => .bad
theorem de_var {i : Nat} {e : Expr} (h : PE X e (tVar i)) : DE X W e (getL i) := by
  refine ⟨_, h, fun w H σ s Q R p => ?_⟩
  unfold getL at p
  split at p
  · next d hd =>
    obtain ⟨v, h1, h2⟩ := R.loc i d hd
    exact ⟨v, h1, Post.here p R h2⟩
  · exact p.elim
theorem de_v (i : Nat) {x : Str} {pos : Pos} (hN : X.N[i]? = some x := by rfl) (hv : Vis X.env.scope x := by first | exact Or.inl rfl | exact Or.inr (Or.inl rfl) | exact Or.inr (Or.inr rfl)) (hd : (x == ("__debug__" : Str)) = false := by decide)
    (hcd : (x == ("__classdict__" : Str)) = false := by decide) : DE X W (.Name x pos) (getL i) := de_var (pe_var hN hv hd hcd)
theorem de_c {e : Expr} {v : V} {d : D} (h : PE X e (tC v)) (r : ∀ w, Rep X.K w v d) : DE X W e (ret d) :=
  ⟨_, h, fun w H σ s Q R p => Post.here p R (r w)⟩
theorem de_int {i j pos} : DE X W (.Constant (.int i) j pos) (ret (.int i)) := de_c pe_int fun _ => .int i
theorem de_bl {b j pos} : DE X W (.Constant (.bool b) j pos) (ret (.bl b)) := de_c pe_bl fun _ => .bl b
theorem de_non {j pos} : DE X W (.Constant .none j pos) (ret .non) := de_c pe_non fun _ => .non
theorem de_str {x j pos} : DE X W (.Constant (.str x) j pos) (ret (.str x)) := de_c pe_str fun _ => .str x
/-- a module's constant -/
theorem de_gI {x : Str} {i : Int} {t : Tok} {pos : Pos} (hg : Gl X x) (hm : X.mg x = some (.int i t)) (hd : (x == ("__debug__" : Str)) = false := by decide) : DE X W (.Name x pos) (ret (.int i)) :=
  de_c (pe_glob (v := .int i) hg hm ⟨t, rfl⟩ hd) fun _ => .int i
theorem de_gS {x z : Str} {t : Tok} {pos : Pos} (hg : Gl X x) (hm : X.mg x = some (.str z t)) (hd : (x == ("__debug__" : Str)) = false := by decide) : DE X W (.Name x pos) (ret (.str z)) :=
  de_c (pe_glob (v := .str z) hg hm ⟨t, rfl⟩ hd) fun _ => .str z
/-! ### operators -/
def ROp (X : Cx) (r : R2) (g : D → D → M D) : Prop := ∀ (W : WX) w H σ s x y d e Q, RS X.K w H σ s → Rep X.K w x d → Rep X.K w y e → Post X.K W (pD X.K) w H σ (g d e s) Q → r x y H Q
theorem de_op {op : Operator} {r : R2} {g : D → D → M D} {a b : Expr} {fa fb : M D} {pos : Pos} (ho : OpR X (binaryOp op) r) (hr : ROp X r g) (ha : DE X W a fa) (hb : DE X W b fb) :
    DE X W (.BinOp a op b pos) (bnd fa fun d => bnd fb fun e => g d e) := by
  obtain ⟨ta, pa, ra⟩ := ha
  obtain ⟨tb, pb, rb⟩ := hb
  refine ⟨tOp r ta tb, pe_op ho pa pb, fun w H σ s Q R p => ?_⟩
  refine ra.bnd R p fun d s1 w1 H1 v1 l1 R1 r1 p1 => ?_
  refine rb.bnd R1 p1 fun e s2 w2 H2 v2 l2 R2 r2 p2 => ?_
  exact hr W w2 H2 σ s2 v1 v2 d e Q R2 (Rep.up l2 r1) r2 p2
theorem de_cmp {op : CmpOp} {r : R2} {g : D → D → M D} {a b : Expr} {fa fb : M D} {pos : Pos} (ho : OpR X (compareOp op) r) (hr : ROp X r g) (ha : DE X W a fa) (hb : DE X W b fb) (hm : behindInMarks op b = false := by first | exact nobehind _ (by decide) (by decide) | rfl) :
    DE X W (.Compare a [op] [b] pos) (bnd fa fun d => bnd fb fun e => g d e) := by
  obtain ⟨ta, pa, ra⟩ := ha
  obtain ⟨tb, pb, rb⟩ := hb
  refine ⟨tOp r ta tb, pe_cmpR ho pa pb hm, fun w H σ s Q R p => ?_⟩
  refine ra.bnd R p fun d s1 w1 H1 v1 l1 R1 r1 p1 => ?_
  refine rb.bnd R1 p1 fun e s2 w2 H2 v2 l2 R2 r2 p2 => ?_
  exact hr W w2 H2 σ s2 v1 v2 d e Q R2 (Rep.up l2 r1) r2 p2
def asB : D → M Bool
  | .bl b => ret b
  | _ => fail
theorem asB_fol {K : PySem.W.Frag} {w : Wd} {H : Hp} {σ : L2.St} {s : S} {v : V} {d : D} {Q : Bool → Hp → Prop} (R : RS K w H σ s) (r : Rep K w v d) (p : Post K W pB w H σ (asB d s) Q) : ∃ k, v = .bl k ∧ Q k H := by
  cases r with
  | bl b => exact ⟨b, rfl, Post.here p R rfl⟩
  | _ => exact p.elim
theorem dt_cmp {op : CmpOp} {r : R2} {g : D → D → M D} {a b : Expr} {fa fb : M D} {pos : Pos} (ho : OpR X (compareOp op) r) (hr : ROp X r g) (ha : DE X W a fa) (hb : DE X W b fb) (hm : behindInMarks op b = false := by first | exact nobehind _ (by decide) (by decide) | rfl) :
    DT X W (.Compare a [op] [b] pos) (bnd (bnd fa fun d => bnd fb fun e => g d e) asB) := by
  obtain ⟨ta, pa, ra⟩ := ha
  obtain ⟨tb, pb, rb⟩ := hb
  have h := de_cmp (pos := pos) ho hr ⟨ta, pa, ra⟩ ⟨tb, pb, rb⟩ hm
  refine ⟨tTest (tOp r ta tb), pt_cmpR ho pa pb hm, fun w H σ s Q R p => ?_⟩
  have key : Fol X.K W (pD X.K) (tOp r ta tb) (bnd fa fun d => bnd fb fun e => g d e) := fun w H σ s Q R p => by
    refine ra.bnd R p fun d s1 w1 H1 v1 l1 R1 r1 p1 => ?_
    refine rb.bnd R1 p1 fun e s2 w2 H2 v2 l2 R2 r2 p2 => ?_
    exact hr W w2 H2 σ s2 v1 v2 d e Q R2 (Rep.up l2 r1) r2 p2
  exact key.bnd R p fun d s1 w1 H1 v1 l1 R1 r1 p1 => asB_fol R1 r1 p1
/-- an expression that gives True or False, as a test -/
theorem dt_val {e : Expr} {f : M D} (h : DE X W e f) (he : ∀ whole, isTrue e X.env whole = (do let v ← whole; standAt e.pos; holding [v] (truthy v)) := by intro _; rfl) : DT X W e (bnd f asB) := by
  obtain ⟨t, p, r⟩ := h
  exact ⟨tB t, pt_val p he, fun w H σ s Q R p => r.bnd R p fun d s1 w1 H1 v1 l1 R1 r1 p1 => asB_fol R1 r1 p1⟩
/-! ints -/
def i2 (g : Int → Int → D) : D → D → M D
  | .int i, .int j => ret (g i j)
  | _, _ => fail
def i2c (c : Int → Int → Bool) (g : Int → Int → D) : D → D → M D
  | .int i, .int j => if c i j = true then ret (g i j) else fail
  | _, _ => fail
theorem rop_i2 {g : Int → Int → D} {g' : Int → Int → V} (h : ∀ w i j, Rep X.K w (g' i j) (g i j)) : ROp X (rI0 g') (i2 g) := fun W w H σ s x y d e Q R rx ry p => by
  cases rx with
  | int i =>
    cases ry with
    | int j => exact ⟨i, j, rfl, rfl, Post.here p R (h w i j)⟩
    | _ => exact p.elim
  | _ => exact p.elim
theorem rop_i2c {C : Int → Int → Prop} {c : Int → Int → Bool} {g : Int → Int → D} {g' : Int → Int → V} (hc : ∀ i j, c i j = true → C i j) (h : ∀ w i j, Rep X.K w (g' i j) (g i j)) : ROp X (rI C g') (i2c c g) := fun W w H σ s x y d e Q R rx ry p => by
  cases rx with
  | int i =>
    cases ry with
    | int j =>
      unfold i2c at p
      dsimp only at p
      split at p
      · next k => exact ⟨i, j, rfl, rfl, hc i j k, Post.here p R (h w i j)⟩
      · exact p.elim
    | _ => exact p.elim
  | _ => exact p.elim
theorem ROp.or {r1 r2 : R2} {g : D → D → M D} {g1 g2 : D → D → M D} (h1 : ROp X r1 g1) (h2 : ROp X r2 g2) (h : ∀ d e, g d e = g1 d e ∨ g d e = g2 d e) : ROp X (fun x y H Q => r1 x y H Q ∨ r2 x y H Q) g := fun W w H σ s x y d e Q R rx ry p => by
  rcases h d e with q | q
  · rw [q] at p; exact .inl (h1 W w H σ s x y d e Q R rx ry p)
  · rw [q] at p; exact .inr (h2 W w H σ s x y d e Q R rx ry p)
theorem opr_or {f : Value → Value → Sem Value} {r1 r2 : R2} (h1 : OpR X f r1) (h2 : OpR X f r2) : OpR X f (fun x y H Q => r1 x y H Q ∨ r2 x y H Q) := by
  intro pins s σ H x y v u Q I rx ry h
  rcases h with h | h
  · exact h1 pins s σ H x y v u Q I rx ry h
  · exact h2 pins s σ H x y v u Q I rx ry h
/-- * of two factors of together less than a hundred million bits -/
def CMulX (i j : Int) : Prop := i.natAbs.log2 + j.natAbs.log2 < 100000000
theorem CMulX.fits {i j : Int} (h : CMulX i j) : IntMulOk i j := by
  have b : ∀ x : Int, Builtin.Int.intBits x ≤ x.natAbs.log2 + 1 := fun x => by
    unfold Builtin.Int.intBits
    split <;> omega
  have b1 := b i
  have b2 := b j
  have h3 : i.natAbs.log2 + j.natAbs.log2 < 100000000 := h
  have line : bitsLine = 134217728 := by decide
  unfold IntMulOk
  intro z
  rw [Bool.and_eq_true] at z
  have y := z.2
  unfold Builtin.Int.intTooBig at y
  have x := of_decide_eq_true y
  rw [line] at x
  omega
theorem op_mulX : OpR X (binaryOp .Mult) (rI CMulX fun i j => .int (i * j)) := opI fun _ _ _ _ _ _ _ hc q => mul_int q hc.fits
def subM : D → D → M D := i2 fun i j => .int (i - j)
def mulM : D → D → M D := i2c (fun i j => decide (i.natAbs.log2 + j.natAbs.log2 < 100000000)) fun i j => .int (i * j)
def divM : D → D → M D := i2c (fun _ j => decide (0 < j) && decide (j.natAbs.log2 < 9000)) fun i j => .int (i / j)
def modM : D → D → M D := i2c (fun _ j => decide (0 < j)) fun i j => .int (i % j)
def powM : D → D → M D := i2c (fun i j => decide (0 ≤ j) && (decide (j ≤ 1000000) && decide (i.natAbs < 2 ^ 64))) fun i j => .int (i ^ j.toNat)
def shlM : D → D → M D := i2c (fun i j => decide (0 ≤ j) && (decide (j ≤ 1000000) && decide (i.natAbs < 2 ^ 64))) fun i j => .int (i * 2 ^ j.toNat)
def shrM : D → D → M D := i2c (fun _ j => decide (0 ≤ j)) fun i j => .int (i / 2 ^ j.toNat)
def andM : D → D → M D := i2 fun i j => .int (Builtin.bitAnd i j)
def orM : D → D → M D := i2 fun i j => .int (Builtin.bitOr i j)
def xorM : D → D → M D := i2 fun i j => .int (Builtin.bitXor i j)
theorem rop_sub : ROp X (rI0 fun i j => .int (i - j)) subM := rop_i2 fun _ _ _ => .int _
theorem rop_mul : ROp X (rI CMulX fun i j => .int (i * j)) mulM := rop_i2c (fun i j h => (of_decide_eq_true h : i.natAbs.log2 + j.natAbs.log2 < 100000000)) fun _ _ _ => .int _
theorem rop_div : ROp X (rI CDivW fun i j => .int (i / j)) divM := rop_i2c (fun i j h => by
  rw [Bool.and_eq_true, decide_eq_true_eq, decide_eq_true_eq] at h; exact h) fun _ _ _ => .int _
theorem rop_mod : ROp X (rI (fun _ j => 0 < j) fun i j => .int (i % j)) modM := rop_i2c (fun i j h => of_decide_eq_true h) fun _ _ _ => .int _
theorem rop_pow : ROp X (rI CPow fun i j => .int (i ^ j.toNat)) powM := rop_i2c (fun i j h => by
  rw [Bool.and_eq_true, Bool.and_eq_true, decide_eq_true_eq, decide_eq_true_eq, decide_eq_true_eq] at h; exact h) fun _ _ _ => .int _
theorem rop_shl : ROp X (rI CPow fun i j => .int (i * 2 ^ j.toNat)) shlM := rop_i2c (fun i j h => by
  rw [Bool.and_eq_true, Bool.and_eq_true, decide_eq_true_eq, decide_eq_true_eq, decide_eq_true_eq] at h; exact h) fun _ _ _ => .int _
theorem rop_shr : ROp X (rI (fun _ j => 0 ≤ j) fun i j => .int (i / 2 ^ j.toNat)) shrM := rop_i2c (fun i j h => of_decide_eq_true h) fun _ _ _ => .int _
theorem rop_and : ROp X (rI0 fun i j => .int (Builtin.bitAnd i j)) andM := rop_i2 fun _ _ _ => .int _
theorem rop_or : ROp X (rI0 fun i j => .int (Builtin.bitOr i j)) orM := rop_i2 fun _ _ _ => .int _
theorem rop_xor : ROp X (rI0 fun i j => .int (Builtin.bitXor i j)) xorM := rop_i2 fun _ _ _ => .int _
section
variable {a b : Expr} {fa fb : M D} {pos : Pos}
theorem de_sub (ha : DE X W a fa) (hb : DE X W b fb) : DE X W (.BinOp a .Sub b pos) (bnd fa fun d => bnd fb fun e => subM d e) := de_op op_sub rop_sub ha hb
theorem de_mul (ha : DE X W a fa) (hb : DE X W b fb) : DE X W (.BinOp a .Mult b pos) (bnd fa fun d => bnd fb fun e => mulM d e) := de_op op_mulX rop_mul ha hb
theorem de_div (ha : DE X W a fa) (hb : DE X W b fb) : DE X W (.BinOp a .FloorDiv b pos) (bnd fa fun d => bnd fb fun e => divM d e) := de_op op_fdivW rop_div ha hb
theorem de_mod (ha : DE X W a fa) (hb : DE X W b fb) : DE X W (.BinOp a .Mod b pos) (bnd fa fun d => bnd fb fun e => modM d e) := de_op op_mod rop_mod ha hb
theorem de_pow (ha : DE X W a fa) (hb : DE X W b fb) : DE X W (.BinOp a .Pow b pos) (bnd fa fun d => bnd fb fun e => powM d e) := de_op op_pow rop_pow ha hb
theorem de_shl (ha : DE X W a fa) (hb : DE X W b fb) : DE X W (.BinOp a .LShift b pos) (bnd fa fun d => bnd fb fun e => shlM d e) := de_op op_shl rop_shl ha hb
theorem de_shr (ha : DE X W a fa) (hb : DE X W b fb) : DE X W (.BinOp a .RShift b pos) (bnd fa fun d => bnd fb fun e => shrM d e) := de_op op_shr rop_shr ha hb
theorem de_band (ha : DE X W a fa) (hb : DE X W b fb) : DE X W (.BinOp a .BitAnd b pos) (bnd fa fun d => bnd fb fun e => andM d e) := de_op op_and rop_and ha hb
theorem de_bxor (ha : DE X W a fa) (hb : DE X W b fb) : DE X W (.BinOp a .BitXor b pos) (bnd fa fun d => bnd fb fun e => xorM d e) := de_op op_xor rop_xor ha hb
theorem de_bor (ha : DE X W a fa) (hb : DE X W b fb) : DE X W (.BinOp a .BitOr b pos) (bnd fa fun d => bnd fb fun e => orM d e) := de_op op_or rop_or ha hb
end
/-! ### and, or, not, if else -/
section
variable {a b : Expr} {rest : List Expr} {fa fb : M D} {ta tb : M Bool} {pos : Pos}
def andT (p q : M Bool) : M Bool := bnd p fun c => if c = true then q else ret false
def orT (p q : M Bool) : M Bool := bnd p fun c => if c = true then ret true else q
def notT (p : M Bool) : M Bool := bnd p fun c => ret (!c)
def andV (p q : M D) : M D := bnd p fun d => bnd (asB d) fun c => if c = true then q else ret (.bl false)
def orV (p q : M D) : M D := bnd p fun d => bnd (asB d) fun c => if c = true then ret (.bl true) else q
def notV (p : M D) : M D := bnd p fun d => bnd (asB d) fun c => ret (.bl (!c))
def iteM (c : M Bool) (p q : M D) : M D := bnd c fun b => if b = true then p else q
/-- and, or within a test -/
def DW (X : Cx) (W : WX) (e : Expr) (f : M Bool) : Prop := ∃ t, PW X e t ∧ Fol X.K W pB t f
theorem dw_and1 (h : DT X W a ta) : DW X W (.BoolOp .And [a] pos) ta := let ⟨t, p, r⟩ := h; ⟨t, pw_and1 p, r⟩
theorem dw_or1 (h : DT X W a ta) : DW X W (.BoolOp .Or [a] pos) ta := let ⟨t, p, r⟩ := h; ⟨t, pw_or1 p, r⟩
theorem dw_and (h : DT X W a ta) (k : DW X W (.BoolOp .And (b :: rest) pos) tb) : DW X W (.BoolOp .And (a :: b :: rest) pos) (andT ta tb) := by
  obtain ⟨t, p, r⟩ := h
  obtain ⟨u, q, k⟩ := k
  refine ⟨_, pw_and p q, fun w H σ s Q R z => ?_⟩
  refine r.bnd R z fun c s1 w1 H1 v1 l1 R1 r1 p1 => ?_
  cases r1
  cases c with
  | true => exact k w1 H1 σ s1 Q R1 p1
  | false => exact Post.here p1 R1 rfl
theorem dw_or (h : DT X W a ta) (k : DW X W (.BoolOp .Or (b :: rest) pos) tb) : DW X W (.BoolOp .Or (a :: b :: rest) pos) (orT ta tb) := by
  obtain ⟨t, p, r⟩ := h
  obtain ⟨u, q, k⟩ := k
  refine ⟨_, pw_or p q, fun w H σ s Q R z => ?_⟩
  refine r.bnd R z fun c s1 w1 H1 v1 l1 R1 r1 p1 => ?_
  cases r1
  cases c with
  | false => exact k w1 H1 σ s1 Q R1 p1
  | true => exact Post.here p1 R1 rfl
theorem dt_w {e : Expr} {f : M Bool} (h : DW X W e f) : DT X W e f := let ⟨t, p, r⟩ := h; ⟨t, p.pt, r⟩
theorem dt_not (h : DT X W a ta) : DT X W (.UnaryOp .Not a pos) (notT ta) := by
  obtain ⟨t, p, r⟩ := h
  refine ⟨_, pt_not p, fun w H σ s Q R z => ?_⟩
  refine r.bnd R z fun c s1 w1 H1 v1 l1 R1 r1 p1 => ?_
  cases r1
  exact Post.here p1 R1 rfl
theorem asB_bnd {K : PySem.W.Frag} {α ν : Type} {P : Pr ν α} {w : Wd} {H : Hp} {σ : L2.St} {s : S} {v : V} {d : D} {k : Bool → M α} {Q : ν → Hp → Prop} (r : Rep K w v d) (p : Post K W P w H σ (bnd (asB d) k s) Q) : ∃ c, v = .bl c ∧ Post K W P w H σ (k c s) Q := by
  cases r with
  | bl b => exact ⟨b, rfl, p⟩
  | _ => exact p.elim
theorem de_one {op} (h : DE X W a fa) : DE X W (.BoolOp op [a] pos) fa := let ⟨t, p, r⟩ := h; ⟨t, pe_one p, r⟩
theorem de_and (h : DE X W a fa) (k : DE X W (.BoolOp .And (b :: rest) pos) fb) : DE X W (.BoolOp .And (a :: b :: rest) pos) (andV fa fb) := by
  obtain ⟨t, p, r⟩ := h
  obtain ⟨u, q, k⟩ := k
  refine ⟨_, pe_and p q, fun w H σ s Q R z => ?_⟩
  refine r.bnd R z fun d s1 w1 H1 v1 l1 R1 r1 p1 => ?_
  obtain ⟨c, e, p2⟩ := asB_bnd r1 p1
  refine ⟨c, e, ?_⟩
  cases c with
  | true => exact k w1 H1 σ s1 Q R1 p2
  | false => exact Post.here p2 R1 (Rep.bl false)
theorem de_or (h : DE X W a fa) (k : DE X W (.BoolOp .Or (b :: rest) pos) fb) : DE X W (.BoolOp .Or (a :: b :: rest) pos) (orV fa fb) := by
  obtain ⟨t, p, r⟩ := h
  obtain ⟨u, q, k⟩ := k
  refine ⟨_, pe_or p q, fun w H σ s Q R z => ?_⟩
  refine r.bnd R z fun d s1 w1 H1 v1 l1 R1 r1 p1 => ?_
  obtain ⟨c, e, p2⟩ := asB_bnd r1 p1
  refine ⟨c, e, ?_⟩
  cases c with
  | false => exact k w1 H1 σ s1 Q R1 p2
  | true => exact Post.here p2 R1 (Rep.bl true)
theorem de_not (h : DE X W a fa) : DE X W (.UnaryOp .Not a pos) (notV fa) := by
  obtain ⟨t, p, r⟩ := h
  refine ⟨_, pe_not p, fun w H σ s Q R z => ?_⟩
  refine r.bnd R z fun d s1 w1 H1 v1 l1 R1 r1 p1 => ?_
  obtain ⟨c, e, p2⟩ := asB_bnd r1 p1
  exact ⟨c, e, Post.here p2 R1 (Rep.bl (!c))⟩
theorem de_ite {c : Expr} (h : DT X W c ta) (ha : DE X W a fa) (hb : DE X W b fb) : DE X W (.IfExp c a b pos) (iteM ta fa fb) := by
  obtain ⟨t, p, r⟩ := h
  obtain ⟨u, pa, ra⟩ := ha
  obtain ⟨u', pb, rb⟩ := hb
  refine ⟨_, pe_ifExp p pa pb, fun w H σ s Q R z => ?_⟩
  refine r.bnd R z fun c s1 w1 H1 v1 l1 R1 r1 p1 => ?_
  cases r1
  cases c with
  | true => exact ra w1 H1 σ s1 Q R1 p1
  | false => exact rb w1 H1 σ s1 Q R1 p1
end
/-! ### lists of arguments, displays -/
section
variable {a : Expr} {es : List Expr} {fa : M D} {fs : M (List D)} {pos : Pos}
def consM (p : M D) (q : M (List D)) : M (List D) := bnd p fun d => bnd q fun ds => ret (d :: ds)
theorem da_nil : DA X W [] (ret []) := ⟨_, pa_nil, fun w H σ s Q R p => Post.here p R (RepL.nil (K := X.K) (w := w))⟩
theorem da_cons (h : DE X W a fa) (k : DA X W es fs) (hst : starEach (a :: es) X.env = (false, eval a X.env) :: starEach es X.env := by rfl) : DA X W (a :: es) (consM fa fs) := by
  obtain ⟨t, p, r⟩ := h
  obtain ⟨u, q, k⟩ := k
  refine ⟨_, pa_cons p q hst, fun w H σ s Q R z => ?_⟩
  refine r.bnd R z fun d s1 w1 H1 v1 l1 R1 r1 p1 => ?_
  refine k.bnd R1 p1 fun ds s2 w2 H2 v2 l2 R2 r2 p2 => ?_
  exact Post.here p2 R2 (RepL.cons (Rep.up l2 r1) r2)
def lenOk (n : Nat) : Bool := decide (n ≤ sizeLine)
def tupM (q : M (List D)) : M D := bnd q fun ds => if lenOk ds.length = true then ret (.tup ds) else fail
def lstN (q : M (List D)) : M Cell := bnd q fun ds => if lenOk ds.length = true then ret (.lst ds) else fail
/-- a display, its object known -/
def tTupC (t : TA) : TE := fun σ H Q => t σ H fun vs H1 => vs.length ≤ sizeLine ∧ ∀ (p : Addr) (o : Obj), o.dict = none → H1 p = none → Q (.ref p) (upd H1 p (.frz o (.tup vs)))
theorem pe_tupC {t : TA} {x1} (h : PA X es t) : PE X (.Tuple es x1 pos) (tTupC t) :=
  ⟨fun pins s σ H Q I q => wpAny_Tuple_spliced (thn (h.run pos pins s σ H _ I q) fun us s1 ⟨vs, H1, I1, r, hz, k⟩ => by
    have hn : H1 s1.heap.objs.size = none := I1.hok.fresh (Nat.le_refl _)
    have hg : (s1.heap.push { cls := .type "tuple", data := .seq us.toArray }).get? s1.heap.objs.size = some { cls := .type "tuple", data := .seq us.toArray } := Heap.get?_push_size _ rfl
    refine ⟨by rw [← r.length]; exact hz, .ref s1.heap.objs.size, _, ?_, rfl, k _ { cls := .type "tuple", data := .seq us.toArray } rfl hn⟩
    exact I1.laid (t' := s1.toks) (fun b u e => Heap.get?_push_of_some _ e) (Nat.le_refl _) ⟨hg, hz, us, r, ⟨_, hg, rfl, _, rfl⟩⟩)⟩
theorem de_tup {x1} (h : DA X W es fs) : DE X W (.Tuple es x1 pos) (tupM fs) := by
  obtain ⟨t, p, r⟩ := h
  refine ⟨_, pe_tupC p, fun w H σ s Q R z => ?_⟩
  refine r.bnd R z fun ds s1 w1 H1 v1 l1 R1 r1 p1 => ?_
  split at p1
  · next k =>
    refine ⟨by rw [RepL.length r1]; exact of_decide_eq_true k, fun q o ho hq => ?_⟩
    obtain ⟨l2, R2, r2⟩ := R1.newT hq r1 ho
    exact p1 _ _ _ l2 R2 r2
  · exact p1.elim
theorem dn_lst (h : DA X W es fs) : DN X W (.List es pos) (lstN fs) := by
  obtain ⟨t, p, r⟩ := h
  refine ⟨_, pe_lst p, fun w H σ s Q R z => ?_⟩
  refine r.bnd R z fun ds s1 w1 H1 v1 l1 R1 r1 p1 => ?_
  split at p1
  · next k =>
    refine ⟨by rw [RepL.length r1]; exact of_decide_eq_true k, fun q hq => ?_⟩
    exact p1 w1 _ _ (Le.laid hq) (R1.laid hq) ⟨q, rfl, (R1.fresh hq).1, (R1.fresh hq).2, ⟨_, upd_same, r1⟩, hq⟩
  · exact p1.elim
/-- a new list, never changed from here on -/
def frzM (m : M Cell) : M D := bnd m fun c => match c with
  | .lst ds => ret (.lst ds)
  | _ => fail
/-- a new list or dict that stands by itself -/
def ownM (m : M Cell) : M D := bnd m fun c s => .ok (.cell s.vh.length) { s with vh := s.vh ++ [c] }
theorem RS.frz {K : PySem.W.Frag} {w : Wd} {H : Hp} {σ : L2.St} {s : S} {p : Addr} {o : HO} (R : RS K w H σ s) (h : H p = some o) (hf : w.F p = none) (hr : p ∉ w.ρ) : RS K (w.frz p o) H σ s := by
  have le := Wd.frz_le (o := o) hf
  refine ⟨fun a q e => ?_, R.len, fun i d e => ?_, R.cl, R.nd, fun a ha => ?_, fun n a c e1 e2 => ?_⟩
  · have e : upd w.F p o a = some q := e
    by_cases hh : a = p
    · subst hh; rw [upd_same] at e; cases e; exact h
    · rw [upd_ne hh] at e; exact R.sub a q e
  · obtain ⟨v, h1, h2⟩ := R.loc i d e
    exact ⟨v, h1, h2.upW le⟩
  · show upd w.F p o a = none
    rw [upd_ne (fun (e : a = p) => hr (e ▸ ha))]; exact R.out a ha
  · exact (R.cells n a c e1 e2).upW le rfl
theorem frz_fol {t : TE} {f : M Cell} (r : Fol X.K W (pN X.K) t f) : Fol X.K W (pD X.K) t (frzM f) := fun w H σ s Q R z => by
  refine r w H σ s Q R ?_
  unfold frzM bnd at z
  cases hf : f s with
  | bad => rw [hf] at z; exact z.elim
  | exc x s1 => rw [hf] at z; exact z
  | ok c s1 =>
    rw [hf] at z
    rintro w1 H1 _ l1 R1 ⟨q, rfl, N⟩
    cases c with
    | dct _ => exact z.elim
    | obj _ _ => exact z.elim
    | dctL _ _ _ => exact z.elim
    | dctN _ _ => exact z.elim
    | lst ds =>
      obtain ⟨vs, h1, h2⟩ := N.c
      exact z _ _ _ (l1.frz N.n N.f) (R1.frz h1 N.f N.r) (.lst (SqL.of upd_same) (h2.upW (Wd.frz_le N.f)))
theorem own_fol {t : TE} {f : M Cell} (r : Fol X.K W (pN X.K) t f) : Fol X.K W (pD X.K) t (ownM f) := fun w H σ s Q R z => by
  refine r w H σ s Q R ?_
  unfold ownM bnd at z
  cases hf : f s with
  | bad => rw [hf] at z; exact z.elim
  | exc x s1 => rw [hf] at z; exact z
  | ok c s1 =>
    rw [hf] at z
    rintro w1 H1 _ l1 R1 ⟨q, rfl, N⟩
    refine z _ _ _ (l1.own N.n) (R1.addCell N.f N.r N.c) (.cell ?_)
    show (w1.ρ ++ [q])[s1.vh.length]? = some q
    rw [← R1.cl, List.getElem?_append_right (Nat.le_refl _), Nat.sub_self]
    rfl
theorem de_frz {f : M Cell} (h : DN X W a f) : DE X W a (frzM f) := let ⟨t, p, r⟩ := h; ⟨t, p, frz_fol r⟩
theorem de_own {f : M Cell} (h : DN X W a f) : DE X W a (ownM f) := let ⟨t, p, r⟩ := h; ⟨t, p, own_fol r⟩
end
end Fx

namespace Fx
open PySem PySem.Spec PyProof.Rows L2
open Classical
/-! ### a reading made of f itself -/
def tM {α ν : Type} (K : PySem.W.Frag) (W : WX) (P : Pr ν α) (f : M α) : L2.St → Hp → (ν → Hp → Prop) → Prop := fun σ H Q => ∃ w s, RS K w H σ s ∧ Post K W P w H σ (f s) Q
theorem tM_fol {α ν : Type} {K : PySem.W.Frag} {W : WX} {P : Pr ν α} {f : M α} : Fol K W P (tM K W P f) f := fun w H σ s Q R p => ⟨w, s, R, p⟩
variable {X : Cx} {W : WX}
theorem DE.pe {e : Expr} {f : M D} (h : DE X W e f) : PE X e (tM X.K W (pD X.K) f) := by
  obtain ⟨t, p, r⟩ := h
  exact ⟨fun pins s σ H Q I ⟨w, z, R, q⟩ => p.run pins s σ H Q I (r w H σ z Q R q)⟩
theorem DT.pt {e : Expr} {f : M Bool} (h : DT X W e f) : PT X e (tM X.K W pB f) := by
  obtain ⟨t, p, r⟩ := h
  exact ⟨fun pins s σ H Q I ⟨w, z, R, q⟩ => p.run pins s σ H Q I (r w H σ z Q R q)⟩
/-! ### statements -/
inductive Out where
  | nx | brk | cnt | rt (d : D)
section
variable (K : PySem.W.Frag) (W : WX)
def PostS (w : Wd) (H : Hp) (r : Res Out) (D : Ends) : Prop := match r with
  | .ok .nx s => ∀ w' H' σ', Le w H w' H' → RS K w' H' σ' s → D.nx σ' H'
  | .ok .brk s => ∀ w' H' σ', Le w H w' H' → RS K w' H' σ' s → D.bk σ' H'
  | .ok .cnt s => ∀ w' H' σ', Le w H w' H' → RS K w' H' σ' s → D.ct σ' H'
  | .ok (.rt d) s => ∀ w' H' σ' v, Le w H w' H' → RS K w' H' σ' s → Rep K w' v d → D.rt v H'
  | .exc e s => ∀ w' H' σ', Le w H w' H' → RS K w' H' σ' s → W e w' H' σ'
  | .bad => False
def FolS (t : TS) (f : M Out) : Prop := ∀ w H σ s D, RS K w H σ s → PostS K W w H (f s) D → t D σ H
end
section
variable {K : PySem.W.Frag} {α ν : Type} {P : Pr ν α} {w w1 : Wd} {σ : L2.St} {s : S} {H : Hp} {D : Ends}
theorem PostS.up {H1 : Hp} {r : Res Out} (l : Le w H w1 H1) (h : PostS K W w H r D) : PostS K W w1 H1 r D := by
  cases r with
  | ok a s =>
    cases a with
    | rt d => exact fun w' H' σ' v l' R r => h w' H' σ' v (l.trans l') R r
    | _ => exact fun w' H' σ' l' R => h w' H' σ' (l.trans l') R
  | exc e s => exact fun w' H' σ' l' R => h w' H' σ' (l.trans l') R
  | bad => exact h
theorem PostS.bnd {m : M α} {k : α → M Out} {Q : ν → Hp → Prop} (h : PostS K W w H (Fx.bnd m k s) D) (f : ∀ a s' w' H' v, Le w H w' H' → RS K w' H' σ s' → P.p H w' H' v a → PostS K W w' H' (k a s') D → Q v H') : Post K W P w H σ (m s) Q := by
  unfold Fx.bnd at h
  cases e : m s with
  | ok a s' => rw [e] at h; exact fun w' H' v l R p => f a s' w' H' v l R p (h.up l)
  | exc x s' => rw [e] at h; exact fun w' H' l R => h w' H' σ l R
  | bad => rw [e] at h; exact h
theorem Fol.bndS {t : L2.St → Hp → (ν → Hp → Prop) → Prop} {f : M α} {k : α → M Out} {Q : ν → Hp → Prop} (h : Fol K W P t f) (R : RS K w H σ s) (p : PostS K W w H (Fx.bnd f k s) D)
    (g : ∀ a s' w' H' v, Le w H w' H' → RS K w' H' σ s' → P.p H w' H' v a → PostS K W w' H' (k a s') D → Q v H') : t σ H Q := h w H σ s Q R (p.bnd g)
theorem PostS.nx (h : PostS K W w H (ret .nx s) D) (R : RS K w H σ s) : D.nx σ H := h w H σ (Le.refl w H) R
end
def DS (X : Cx) (W : WX) (st : Stmt) (f : M Out) : Prop := ∃ t, PS X st t ∧ FolS X.K W t f
def DSs (X : Cx) (W : WX) (sts : List Stmt) (f : M Out) : Prop := ∃ t, PSs X sts t ∧ FolS X.K W t f
def seqM (p q : M Out) : M Out := fun s => match p s with
  | .ok .nx s' => q s'
  | r => r
section
variable {st : Stmt} {rest : List Stmt} {e c : Expr} {f g : M Out} {fe : M D} {fc : M Bool} {pos : Pos}
theorem dss_nil : DSs X W [] (ret .nx) := ⟨_, pss_nil, fun w H σ s D R p => p.nx R⟩
theorem dss_cons (h : DS X W st f) (k : DSs X W rest g) : DSs X W (st :: rest) (seqM f g) := by
  obtain ⟨t, p, r⟩ := h
  obtain ⟨u, q, k⟩ := k
  refine ⟨_, pss_cons p q, fun w H σ s D R z => ?_⟩
  refine r w H σ s { D with nx := u D } R ?_
  unfold seqM at z
  cases hf : f s with
  | ok a s' =>
    rw [hf] at z
    cases a with
    | nx => exact fun w' H' σ' l R' => k w' H' σ' s' D R' (z.up l)
    | brk => exact z
    | cnt => exact z
    | rt d => exact z
  | exc x s' => rw [hf] at z; exact z
  | bad => rw [hf] at z; exact z
theorem dss_one (h : DS X W st f) : DSs X W [st] f := let ⟨t, p, r⟩ := h; ⟨t, pss_one p, r⟩
theorem ds_pass : DS X W (.Pass pos) (ret .nx) := ⟨_, ps_pass, fun w H σ s D R p => p.nx R⟩
theorem ds_doc {x j pos'} : DS X W (.Expr (.Constant (.str x) j pos) pos') (ret .nx) := ⟨_, ps_doc, fun w H σ s D R p => p.nx R⟩
theorem ds_break : DS X W (.Break pos) (ret .brk) := ⟨_, ps_break, fun w H σ s D R p => p w H σ (Le.refl w H) R⟩
theorem ds_continue : DS X W (.Continue pos) (ret .cnt) := ⟨_, ps_continue, fun w H σ s D R p => p w H σ (Le.refl w H) R⟩
def retM (p : M D) : M Out := bnd p fun d => ret (.rt d)
def dropM (p : M D) : M Out := bnd p fun _ => ret .nx
def ifM (c : M Bool) (p q : M Out) : M Out := bnd c fun b => if b = true then p else q
theorem ds_ret (h : DE X W e fe) : DS X W (.Return (some e) pos) (retM fe) := by
  obtain ⟨t, p, r⟩ := h
  refine ⟨_, ps_ret p, fun w H σ s D R z => ?_⟩
  exact r.bndS R z fun d s1 w1 H1 v1 l1 R1 r1 p1 => p1 w1 H1 σ v1 (Le.refl w1 H1) R1 r1
theorem ds_retN : DS X W (.Return none pos) (ret (.rt .non)) := ⟨_, ps_retN, fun w H σ s D R p => p w H σ .non (Le.refl w H) R .non⟩
theorem ds_expr (h : DE X W e fe) (hs : swapsWith e none pos.line X.env = pure false := by rfl) : DS X W (.Expr e pos) (dropM fe) := by
  obtain ⟨t, p, r⟩ := h
  refine ⟨_, ps_expr p hs, fun w H σ s D R z => ?_⟩
  exact r.bndS R z fun d s1 w1 H1 v1 l1 R1 r1 p1 => p1.nx R1
theorem ds_if {a b : List Stmt} (h : DT X W c fc) (ha : DSs X W a f) (hb : DSs X W b g) : DS X W (.If c a b pos) (ifM fc f g) := by
  obtain ⟨t, p, r⟩ := h
  obtain ⟨u, q, k⟩ := ha
  obtain ⟨u', q', k'⟩ := hb
  refine ⟨_, ps_if p q q', fun w H σ s D R z => ?_⟩
  refine r.bndS R z fun d s1 w1 H1 v1 l1 R1 r1 p1 => ?_
  cases r1
  cases d with
  | true => exact k w1 H1 σ s1 D R1 p1
  | false => exact k' w1 H1 σ s1 D R1 p1
/-! targets -/
def setL (i : Nat) (d : D) : M Out := fun s => .ok .nx { s with loc := s.loc.set i (some d) }
def PostG (K : PySem.W.Frag) (w : Wd) (H : Hp) (r : Res Out) (Q : L2.St → Hp → Prop) : Prop := match r with
  | .ok .nx s => ∀ w' H' σ', Le w H w' H' → RS K w' H' σ' s → Q σ' H'
  | _ => False
def DG (X : Cx) (target : Expr) (t : D → M Out) : Prop := ∃ g, PG X target g ∧ ∀ w H σ s v d Q, RS X.K w H σ s → Rep X.K w v d → PostG X.K w H (t d s) Q → g v σ H Q
theorem dg_name {i : Nat} {x : Str} (hN : X.N.Nodup) (hi : X.N[i]? = some x := by rfl) (hx : Loc X.env.scope x := by first | exact Or.inl rfl | exact Or.inr rfl) (hf : X.fn x = true ∨ X.env.scope.names.lookup x = some .local := by first | exact .inl rfl | exact .inr rfl) : DG X (.Name x pos) (setL i) :=
  ⟨_, pg_name hN hi hx hf, fun w H σ s v d Q R r p => p w H _ (Le.refl w H) (R.set r)⟩
def asgM (p : M D) (t : D → M Out) : M Out := bnd p t
theorem ds_asg {tg : Expr} {t : D → M Out} (h : DE X W e fe) (hg : DG X tg t) (ht : ∀ d s, (∃ s', t d s = .ok .nx s') ∨ t d s = .bad) (hs : swapsWithSole [tg] e pos.line X.env = pure false := by rfl) (hw : swappedStores [tg] e X.env = pure none := by rfl)
    (h1 : (assignEach [tg] X.env).map (·.2) = [assign tg X.env] := by rfl) : DS X W (.Assign [tg] e pos) (asgM fe t) := by
  obtain ⟨u, p, r⟩ := h
  obtain ⟨g, pg, k⟩ := hg
  refine ⟨_, ps_asg p pg hs hw h1, fun w H σ s D R z => ?_⟩
  refine r.bndS R z fun d s1 w1 H1 v1 l1 R1 r1 p1 => ?_
  refine k w1 H1 σ s1 v1 d D.nx R1 r1 ?_
  rcases ht d s1 with ⟨s', e⟩ | e
  · rw [e] at p1 ⊢; exact p1
  · rw [e] at p1; exact p1.elim
theorem setL_ok {i : Nat} (d : D) (s : S) : (∃ s', setL i d s = .ok .nx s') ∨ setL i d s = .bad := .inl ⟨_, rfl⟩
/-- x = e -/
theorem ds_set (i : Nat) {x : Str} {p' : Pos} (h : DE X W e fe) (hN : X.N.Nodup) (hi : X.N[i]? = some x := by rfl) (hx : Loc X.env.scope x := by first | exact Or.inl rfl | exact Or.inr rfl) (hf : X.fn x = true ∨ X.env.scope.names.lookup x = some .local := by first | exact .inl rfl | exact .inr rfl)
    (hs : swapsWithSole [.Name x p'] e pos.line X.env = pure false := by rfl) (hw : swappedStores [.Name x p'] e X.env = pure none := by rfl) (h1 : (assignEach [.Name x p'] X.env).map (·.2) = [assign (.Name x p') X.env] := by rfl) : DS X W (.Assign [.Name x p'] e pos) (asgM fe (setL i)) :=
  ds_asg h (dg_name hN hi hx hf) setL_ok hs hw h1
theorem bnd_ok {α β : Type} {m : M α} {k : α → M β} {s s' : S} {a : α} (h : m s = .ok a s') : bnd m k s = k a s' := by
  unfold bnd
  rw [h]
theorem getL_eq {i : Nat} {s : S} {d : D} (h : s.loc[i]? = some (some d)) : getL i s = .ok d s := by
  unfold getL
  rw [h]
/-- x += e, of ints -/
def augF (f : Int → Int → Int) (i : Nat) : D → D → M Out
  | .int x, .int y => setL i (.int (f x y))
  | _, _ => fail
def augI (f : Int → Int → Int) (i : Nat) (p : M D) : M Out := bnd (getL i) fun a => bnd p fun b => augF f i a b
theorem ds_augI (i : Nat) {x : Str} {p' : Pos} {op : Operator} {F : Int → Int → Int} (ho : PIp X op (ipI F)) (h : DE X W e fe) (hN : X.N.Nodup) (hi : X.N[i]? = some x := by rfl) (hx : Loc X.env.scope x := by first | exact Or.inl rfl | exact Or.inr rfl) (hf : X.fn x = true ∨ X.env.scope.names.lookup x = some .local := by first | exact .inl rfl | exact .inr rfl) :
    DS X W (.AugAssign (.Name x p') op e pos) (augI F i fe) := by
  obtain ⟨u, p, r⟩ := h
  refine ⟨_, ps_aug hN hi hx p ho hf, fun w H σ s D R z => ?_⟩
  cases hl : s.loc[i]? with
  | none => unfold augI Fx.bnd getL at z; rw [hl] at z; exact z.elim
  | some o =>
    cases o with
    | none => unfold augI Fx.bnd getL at z; rw [hl] at z; exact z.elim
    | some d =>
      have z : PostS X.K W w H (bnd fe (fun b => augF F i d b) s) D := by
        have e : augI F i fe s = bnd fe (fun b => augF F i d b) s := by
          unfold augI
          exact bnd_ok (getL_eq hl)
        rw [← e]; exact z
      obtain ⟨v, hv, rv⟩ := R.loc i d hl
      refine ⟨v, hv, ?_⟩
      refine r.bndS R z fun b s1 w1 H1 v1 l1 R1 r1 p1 => ?_
      have rv := rv.up l1
      cases rv with
      | int a =>
        cases r1 with
        | int b => exact ⟨a, b, rfl, rfl, p1 w1 H1 _ (Le.refl w1 H1) (R1.set (.int _))⟩
        | _ => exact p1.elim
      | _ => exact p1.elim
/-! ### while -/
noncomputable def whileM (c : M Bool) (b : M Out) : Nat → M Out
  | 0 => fun _ => .bad
  | n + 1 => fun s => match c s with
    | .ok true s1 => match b s1 with
      | .ok .nx s2 => whileM c b n s2
      | .ok .cnt s2 => whileM c b n s2
      | .ok .brk s2 => .ok .nx s2
      | r => r
    | .ok false s1 => .ok .nx s1
    | .exc x s1 => .exc x s1
    | .bad => .bad
theorem ds_while (n : Nat) {body : List Stmt} (hp : PassesOwn (model X.prog X.w) X.A X.env X.xe) (h : DT X W c fc) (hb : DSs X W body f) : DS X W (.While c body [] pos) (whileM fc f n) := by
  obtain ⟨t, p, r⟩ := h
  obtain ⟨u, q, k⟩ := hb
  refine ⟨_, ps_while hp p q, fun w H σ s D R z => ?_⟩
  refine ⟨fun m σ' H' => ∃ w' s', RS X.K w' H' σ' s' ∧ PostS X.K W w' H' (whileM fc f m s') D, ⟨n, w, s, R, z⟩, ?_⟩
  rintro m σ' H' ⟨w', s', R', z'⟩
  cases m with
  | zero => exact z'.elim
  | succ m =>
    have z2 : PostS X.K W w' H' (bnd fc (fun b s1 => if b = true then (match f s1 with
      | .ok .nx s2 => whileM fc f m s2
      | .ok .cnt s2 => whileM fc f m s2
      | .ok .brk s2 => .ok .nx s2
      | r => r) else .ok .nx s1) s') D := by
      unfold whileM at z'
      unfold Fx.bnd
      cases hc : fc s' with
      | ok b s1 => rw [hc] at z'; cases b <;> exact z'
      | exc x s1 => rw [hc] at z'; exact z'
      | bad => rw [hc] at z'; exact z'
    refine r.bndS R' z2 fun b s1 w1 H1 v1 l1 R1 r1 p1 => ?_
    cases r1
    cases b with
    | false => exact p1 w1 H1 σ' (Le.refl w1 H1) R1
    | true =>
      refine ⟨fun σ2 H2 => ∃ w2 s2, RS X.K w2 H2 σ2 s2 ∧ PostS X.K W w2 H2 (whileM fc f m s2) D, fun σ2 H2 h => ⟨m, Nat.lt_succ_self m, h⟩, ?_⟩
      refine k w1 H1 σ' s1 _ R1 ?_
      have p1 : PostS X.K W w1 H1 (match f s1 with
        | .ok .nx s2 => whileM fc f m s2
        | .ok .cnt s2 => whileM fc f m s2
        | .ok .brk s2 => .ok .nx s2
        | r => r) D := p1
      cases hf : f s1 with
      | ok a s2 =>
        rw [hf] at p1
        cases a with
        | nx => exact fun w2 H2 σ2 l R2 => ⟨w2, s2, R2, p1.up l⟩
        | cnt => exact fun w2 H2 σ2 l R2 => ⟨w2, s2, R2, p1.up l⟩
        | brk => exact p1
        | rt d => exact p1
      | exc x s2 => rw [hf] at p1; exact p1
      | bad => rw [hf] at p1; exact p1.elim
end
/-! ### what is walked -/
structure Wk where
  items : List D
  ok : S → Prop
def wkI (K : PySem.W.Frag) : Wd → It → Wk → Prop := fun w0 J it => ∀ w H σ s, w0.le w → RS K w H σ s → it.ok s → ∀ i : Nat, (i < it.items.length → J.go i H) ∧ (it.items.length ≤ i → J.stop i H) ∧
  ∀ x H', J.yld i H x H' → ∀ d, it.items[i]? = some d → ∃ w', Le w H w' H' ∧ RS K w' H' σ s ∧ Rep K w' x d
@[reducible] def pI (K : PySem.W.Frag) : Pr It Wk := ⟨fun _ w H J it => wkI K w J it, fun _ _ _ _ _ _ _ _ _ _ h => h⟩
def DI (X : Cx) (W : WX) (tg e : Expr) (f : M Wk) : Prop := ∃ wi, PI X tg e wi ∧ Fol X.K W (pI X.K) wi f
noncomputable def loopM (ok : S → Prop) (t : D → M Out) (b : M Out) : List D → M Out
  | [] => fun s => if ok s then .ok .nx s else .bad
  | d :: ds => fun s => if ok s then (match t d s with
    | .ok .nx s1 => match b s1 with
      | .ok .nx s2 => loopM ok t b ds s2
      | .ok .cnt s2 => loopM ok t b ds s2
      | .ok .brk s2 => .ok .nx s2
      | r => r
    | _ => .bad) else .bad
noncomputable def forM (f : M Wk) (t : D → M Out) (b : M Out) : M Out := bnd f fun it => loopM it.ok t b it.items
section
variable {tg e : Expr} {fi : M Wk} {t : D → M Out} {b : M Out} {body : List Stmt} {pos : Pos}
theorem ds_for (hp : PassesOwn (model X.prog X.w) X.A X.env X.xe) (hc : X.calm = true) (hi : DI X W tg e fi) (hg : DG X tg t) (hb : DSs X W body b) (hs : ∀ x, foldedSetIterable e X.env x = pure x := by intro _; rfl) : DS X W (.For tg e body [] pos) (forM fi t b) := by
  obtain ⟨wi, p, r⟩ := hi
  obtain ⟨g, pg, kg⟩ := hg
  obtain ⟨u, q, k⟩ := hb
  refine ⟨_, ps_for hp hc p pg q hs, fun w H σ s D R z => ?_⟩
  refine r.bndS R z fun it s1 w1 H1 J l1 R1 r1 p1 => ?_
  refine ⟨fun i m σ' H' => m = it.items.length - i ∧ i ≤ it.items.length ∧ ∃ w' s', w1.le w' ∧ RS X.K w' H' σ' s' ∧ PostS X.K W w' H' (loopM it.ok t b (it.items.drop i) s') D, ⟨_, rfl, Nat.zero_le _, w1, s1, Wd.le.refl w1, R1, p1⟩, ?_⟩
  rintro i m σ' H' ⟨rfl, hi, w', s', l', R', z'⟩
  by_cases hlt : i < it.items.length
  · obtain ⟨d, hd⟩ : ∃ d, it.items[i]? = some d := ⟨_, List.getElem?_eq_getElem hlt⟩
    have ed : it.items.drop i = d :: it.items.drop (i + 1) := by
      rw [List.drop_eq_getElem_cons hlt]
      rw [List.getElem?_eq_getElem hlt] at hd
      rw [Option.some.inj hd]
    rw [ed] at z'
    unfold loopM at z'
    by_cases hok : it.ok s'
    · rw [if_pos hok] at z'
      obtain ⟨h1, h2, h3⟩ := r1 w' H' σ' s' l' R' hok i
      refine .inr ⟨h1 hlt, fun σ2 H2 => ∃ w2 s2, w1.le w2 ∧ RS X.K w2 H2 σ2 s2 ∧ PostS X.K W w2 H2 (loopM it.ok t b (it.items.drop (i + 1)) s2) D, fun σ2 H2 ⟨w2, s2, l2, R2, z2⟩ => ⟨it.items.length - (i + 1), by omega, rfl, hlt, w2, s2, l2, R2, z2⟩, fun x H2 hy => ?_⟩
      obtain ⟨w2, l2, R2, r2⟩ := h3 x H2 hy d hd
      refine kg w2 H2 σ' s' x d _ R2 r2 ?_
      cases ht : t d s' with
      | ok o s3 =>
        rw [ht] at z'
        cases o with
        | nx =>
          refine fun w3 H3 σ3 l3 R3 => ?_
          refine k w3 H3 σ3 s3 _ R3 ?_
          have z' : PostS X.K W w' H' (match b s3 with
            | .ok .nx s2 => loopM it.ok t b (it.items.drop (i + 1)) s2
            | .ok .cnt s2 => loopM it.ok t b (it.items.drop (i + 1)) s2
            | .ok .brk s2 => .ok .nx s2
            | r => r) D := z'
          have z3 := z'.up (l2.trans l3)
          cases hb : b s3 with
          | ok a s4 =>
            rw [hb] at z3
            cases a with
            | nx => exact fun w4 H4 σ4 l R4 => ⟨w4, s4, l'.trans (l2.le.trans (l3.le.trans l.le)), R4, z3.up l⟩
            | cnt => exact fun w4 H4 σ4 l R4 => ⟨w4, s4, l'.trans (l2.le.trans (l3.le.trans l.le)), R4, z3.up l⟩
            | brk => exact z3
            | rt d => exact z3
          | exc x s4 => rw [hb] at z3; exact z3
          | bad => rw [hb] at z3; exact z3.elim
        | _ => exact z'.elim
      | exc _ _ => rw [ht] at z'; exact z'.elim
      | bad => rw [ht] at z'; exact z'.elim
    · rw [if_neg hok] at z'; exact z'.elim
  · have hi' : it.items.length ≤ i := by omega
    rw [List.drop_eq_nil_of_le hi'] at z'
    unfold loopM at z'
    by_cases hok : it.ok s'
    · rw [if_pos hok] at z'
      obtain ⟨h1, h2, h3⟩ := r1 w' H' σ' s' l' R' hok i
      exact .inl ⟨h2 hi', z' w' H' σ' (Le.refl w' H') R'⟩
    · rw [if_neg hok] at z'; exact z'.elim
end
end Fx

namespace Fx
open PySem PySem.Spec PyProof.Rows L2
open Classical
variable {X : Cx} {W : WX}
section
variable {K : PySem.W.Frag} {α β ν μ : Type} {P : Pr ν α} {P2 : Pr μ β} {w w1 : Wd} {σ : L2.St} {s : S}
theorem Fol.bndE {t : L2.St → Hp → (ν → Hp → Prop) → Prop} {f : M α} {k : α → M β} {Q2 : μ → Hp → Prop} {Q : ν → Hp → Prop} {H : Hp} (h : Fol K W P t f) (R : RS K w H σ s) (p : Post K W P2 w H σ (Fx.bnd f k s) Q2)
    (g : ∀ a s' w' H' v, f s = .ok a s' → Le w H w' H' → RS K w' H' σ s' → P.p H w' H' v a → Post K W P2 w' H' σ (k a s') Q2 → Q v H') : t σ H Q := by
  refine h w H σ s Q R ?_
  unfold Fx.bnd at p
  cases e : f s with
  | ok a s' => rw [e] at p; exact fun w' H' v l R x => g a s' w' H' v e l R x (p.up l)
  | exc x s' => rw [e] at p; exact p
  | bad => rw [e] at p; exact p
end
/-! ### what is walked: a list, a tuple, a text -/
def signs (x : Str) : List D := x.cps.toList.map fun c => .str ⟨#[c]⟩
def itemsOf (s : S) : D → Option (List D)
  | .tup ds => some ds
  | .str x => some (signs x)
  | d => lstOf s d
noncomputable def seqI (d : D) : M Wk := fun s => match itemsOf s d with
  | some ds => .ok ⟨ds, fun s' => itemsOf s' d = some ds⟩ s
  | none => .bad
theorem PI.or {tg e : Expr} {w1 w2 : TI} (h1 : PI X tg e w1) (h2 : PI X tg e w2) : PI X tg e (fun σ H R => w1 σ H R ∨ w2 σ H R) :=
  ⟨fun pins s σ H R I h => h.elim (h1.run pins s σ H R I) (h2.run pins s σ H R I)⟩
theorem pI_list {K : PySem.W.Frag} {w0 : Wd} {a : Addr} {d : D} {ds : List D} (r : Rep K w0 (.ref a) d) (hl : ∀ s, itemsOf s d = lstOf s d) : wkI K w0 (Itl K a) ⟨ds, fun s' => itemsOf s' d = some ds⟩ := by
  intro w H σ s l R hok i
  have hok : itemsOf s d = some ds := hok
  rw [hl] at hok
  obtain ⟨a', vs, e, h1, h2⟩ := R.list (r.upW l) hok
  cases e
  have hS : SqL K H a vs := h1
  refine ⟨fun hi => ?_, fun hi => ⟨vs, hS, by rw [RepL.length h2]; exact hi⟩, fun x H' hy d' hd => ?_⟩
  · obtain ⟨v, hv, _⟩ := RepL.get h2 (List.getElem?_eq_getElem hi)
    exact ⟨vs, v, hS, hv⟩
  · obtain ⟨rfl, hx⟩ := hy
    obtain ⟨v, hv, rv⟩ := RepL.get h2 hd
    have := hx vs hS
    rw [hv] at this; cases this
    exact ⟨w, Le.refl _ _, R, rv⟩
theorem pI_tup {K : PySem.W.Frag} {w0 : Wd} {a : Addr} {ds : List D} (r : Rep K w0 (.ref a) (.tup ds)) : wkI K w0 (Itt K a) ⟨ds, fun s' => itemsOf s' (.tup ds) = some ds⟩ := by
  intro w H σ s l R hok i
  obtain ⟨a', vs, e, h1, h2⟩ := R.tuple (r.upW l) (ds := ds) rfl
  cases e
  refine ⟨fun hi => ?_, fun hi => ⟨vs, h1, by rw [RepL.length h2]; exact hi⟩, fun x H' hy d' hd => ?_⟩
  · obtain ⟨v, hv, _⟩ := RepL.get h2 (List.getElem?_eq_getElem hi)
    exact ⟨vs, v, h1, hv⟩
  · obtain ⟨rfl, hx⟩ := hy
    obtain ⟨v, hv, rv⟩ := RepL.get h2 hd
    have := hx vs h1
    rw [hv] at this; cases this
    exact ⟨w, Le.refl _ _, R, rv⟩
theorem pI_str {K : PySem.W.Frag} {w0 : Wd} {x : Str} : wkI K w0 (Its x) ⟨signs x, fun s' => itemsOf s' (.str x) = some (signs x)⟩ := by
  intro w H σ s l R hok i
  have hlen : (signs x).length = x.cps.size := by unfold signs; rw [List.length_map, Array.length_toList]
  refine ⟨fun hi => by rw [hlen] at hi; exact hi, fun hi => by rw [hlen] at hi; exact hi, fun v H' hy d' hd => ?_⟩
  obtain ⟨rfl, c, hc, rfl⟩ := hy
  have e : (signs x)[i]? = some (.str ⟨#[c]⟩) := by
    unfold signs
    rw [List.getElem?_map, Array.getElem?_toList, hc]; rfl
  have hd : (signs x)[i]? = some d' := hd
  rw [e] at hd; cases hd
  exact ⟨w, Le.refl _ _, R, .str _⟩
theorem di_seq {tg e : Expr} {f : M D} (h : DE X W e f) : DI X W tg e (bnd f seqI) := by
  obtain ⟨t, p, r⟩ := h
  refine ⟨_, PI.or (pi_list p) (PI.or (pi_tup p) (pi_str p)), fun w H σ s R0 R z => ?_⟩
  have base : ∀ (Q : V → Hp → Prop), (∀ a s' w' H' v, f s = .ok a s' → Le w H w' H' → RS X.K w' H' σ s' → Rep X.K w' v a → Post X.K W (pI X.K) w' H' σ (seqI a s') R0 → Q v H') → t σ H Q := fun Q g => r.bndE R z g
  cases hf : f s with
  | bad => exact .inl (base _ fun a s' w' H' v e => by rw [hf] at e; cases e)
  | exc x s1 => exact .inl (base _ fun a s' w' H' v e => by rw [hf] at e; cases e)
  | ok d s1 =>
    cases d with
    | tup ds =>
      refine .inr (.inl (base _ fun a s' w' H' v e l R' ra q => ?_))
      rw [hf] at e; cases e
      obtain ⟨a', vs, e, h1, h2⟩ := R'.tuple ra (ds := ds) rfl
      subst e
      exact ⟨a', rfl, ⟨vs, h1⟩, q w' H' _ (Le.refl _ _) R' (pI_tup ra)⟩
    | str x =>
      refine .inr (.inr (base _ fun a s' w' H' v e l R' ra q => ?_))
      rw [hf] at e; cases e
      cases ra
      exact ⟨x, rfl, q w' H' _ (Le.refl _ _) R' pI_str⟩
    | _ =>
      refine .inl (base _ fun a s' w' H' v e l R' ra q => ?_)
      rw [hf] at e; cases e
      unfold seqI at q
      split at q
      · next ds hds =>
        have hds' := hds
        simp only [itemsOf] at hds'
        obtain ⟨a', vs, e, h1, h2⟩ := R'.list ra hds'
        subst e
        refine ⟨a', rfl, ⟨vs, h1⟩, q w' H' _ (Le.refl _ _) R' (pI_list ra fun _ => rfl)⟩
      · exact q.elim
/-! ### range -/
def ranD (lo : Int) (n : Nat) : List D := (List.range n).map fun (k : Nat) => D.int (lo + (k : Int))
theorem ranD_len {lo : Int} {n : Nat} : (ranD lo n).length = n := by unfold ranD; rw [List.length_map, List.length_range]
theorem ranD_get {lo : Int} {n i : Nat} (h : i < n) : (ranD lo n)[i]? = some (.int (lo + (i : Int))) := by
  unfold ranD
  rw [List.getElem?_map, List.getElem?_range h]; rfl
def okB (i : Int) : Bool := decide (-(2 ^ 62) ≤ i) && decide (i < 2 ^ 62)
def ran1I : List D → M Wk
  | [.int n] => fun s => if okB n = true then .ok ⟨ranD 0 n.toNat, fun _ => True⟩ s else .bad
  | _ => fun _ => .bad
def ran2I : List D → M Wk
  | [.int lo, .int n] => fun s => if (okB lo && okB n) = true then .ok ⟨ranD lo (n - lo).toNat, fun _ => True⟩ s else .bad
  | _ => fun _ => .bad
theorem pI_ran {K : PySem.W.Frag} {w0 : Wd} {lo : Int} {n : Nat} : wkI K w0 (Itr lo n) ⟨ranD lo n, fun _ => True⟩ := by
  intro w H σ s l R _ i
  refine ⟨fun hi => by rw [ranD_len] at hi; exact hi, fun hi => by rw [ranD_len] at hi; exact hi, fun v H' hy d' hd => ?_⟩
  obtain ⟨rfl, rfl⟩ := hy
  have hi : i < n := by
    have := (List.getElem?_eq_some_iff.mp hd).1
    rw [ranD_len] at this; exact this
  have hd : (ranD lo n)[i]? = some d' := hd
  rw [ranD_get hi] at hd; cases hd
  exact ⟨w, Le.refl _ _, R, .int _⟩
theorem okB_ok {i : Int} (h : okB i = true) : -(2 ^ 62) ≤ i ∧ i < 2 ^ 62 := by
  unfold okB at h
  rw [Bool.and_eq_true, decide_eq_true_eq, decide_eq_true_eq] at h; exact h
theorem di_range1 {tg a : Expr} {f : M (List D)} {p pos : Pos} (hm : X.mg "range" = none) (h : DA X W [a] f) (hg : Gl X "range" := by rfl) (hs : starEach [a] X.env = [(false, eval a X.env)] := by rfl) : DI X W tg (.Call (.Name "range" p) [a] [] pos) (bnd f ran1I) := by
  obtain ⟨t, q, r⟩ := h
  refine ⟨_, pi_range1 hg hm q hs, fun w H σ s R0 R z => ?_⟩
  refine r.bnd R z fun ds s1 w1 H1 vs l1 R1 r1 p1 => ?_
  cases r1 with
  | nil => exact p1.elim
  | cons h t =>
    cases t with
    | nil =>
      cases h with
      | int n =>
        have p1 : Post X.K W (pI X.K) w1 H1 σ (if okB n = true then Res.ok (Wk.mk (ranD 0 n.toNat) fun _ => True) s1 else .bad) R0 := p1
        split at p1
        · next k => exact ⟨n, rfl, (okB_ok k).1, (okB_ok k).2, p1 w1 H1 _ (Le.refl _ _) R1 pI_ran⟩
        · exact p1.elim
      | _ => exact p1.elim
    | cons h2 t2 => exact (by cases h <;> exact p1.elim)
theorem di_range2 {tg a b : Expr} {f : M (List D)} {p pos : Pos} (hm : X.mg "range" = none) (h : DA X W [a, b] f) (hg : Gl X "range" := by rfl) (hs : starEach [a, b] X.env = [(false, eval a X.env), (false, eval b X.env)] := by rfl) (hs2 : starEach [b] X.env = [(false, eval b X.env)] := by rfl) :
    DI X W tg (.Call (.Name "range" p) [a, b] [] pos) (bnd f ran2I) := by
  obtain ⟨t, q, r⟩ := h
  refine ⟨_, pi_range2 hg hm q hs hs2, fun w H σ s R0 R z => ?_⟩
  refine r.bnd R z fun ds s1 w1 H1 vs l1 R1 r1 p1 => ?_
  cases r1 with
  | nil => exact p1.elim
  | cons h t =>
    cases t with
    | nil => exact (by cases h <;> exact p1.elim)
    | cons h2 t2 =>
      cases t2 with
      | cons _ _ => exact (by cases h <;> cases h2 <;> exact p1.elim)
      | nil =>
        cases h with
        | int lo =>
          cases h2 with
          | int n =>
            have p1 : Post X.K W (pI X.K) w1 H1 σ (if (okB lo && okB n) = true then Res.ok (Wk.mk (ranD lo (n - lo).toNat) fun _ => True) s1 else .bad) R0 := p1
            split at p1
            · next k =>
              rw [Bool.and_eq_true] at k
              exact ⟨lo, n, rfl, ⟨(okB_ok k.1).1, (okB_ok k.1).2, (okB_ok k.2).1, (okB_ok k.2).2⟩, p1 w1 H1 _ (Le.refl _ _) R1 pI_ran⟩
            · exact p1.elim
          | _ => exact p1.elim
        | _ => exact p1.elim
/-! ### zip of two lists, reversed -/
noncomputable def zipI : List D → M Wk
  | [a, b] => fun s => match lstOf s a, lstOf s b with
    | some xs, some ys => .ok ⟨List.zipWith D.pr xs ys, fun s' => lstOf s' a = some xs ∧ lstOf s' b = some ys⟩ s
    | _, _ => .bad
  | _ => fun _ => .bad
theorem pI_zip {K : PySem.W.Frag} {w0 : Wd} {a b : Addr} {d e : D} {xs ys : List D} (ra : Rep K w0 (.ref a) d) (rb : Rep K w0 (.ref b) e) : wkI K w0 (Itz K a b) ⟨List.zipWith D.pr xs ys, fun s' => lstOf s' d = some xs ∧ lstOf s' e = some ys⟩ := by
  intro w H σ s l R hok i
  obtain ⟨k1, k2⟩ : lstOf s d = some xs ∧ lstOf s e = some ys := hok
  obtain ⟨a', vs, e1, h1, h2⟩ := R.list (ra.upW l) k1
  cases e1
  obtain ⟨b', us, e2, h3, h4⟩ := R.list (rb.upW l) k2
  cases e2
  have hlen : (List.zipWith D.pr xs ys).length = min xs.length ys.length := List.length_zipWith
  refine ⟨fun hi => ?_, fun hi => ⟨vs, us, h1, h3, ?_⟩, fun x H' hy d' hd => ?_⟩
  · have hi : i < (List.zipWith D.pr xs ys).length := hi
    rw [hlen] at hi
    obtain ⟨v, hv, _⟩ := RepL.get h2 (List.getElem?_eq_getElem (show i < xs.length by omega))
    obtain ⟨u, hu, _⟩ := RepL.get h4 (List.getElem?_eq_getElem (show i < ys.length by omega))
    exact ⟨vs, us, v, u, h1, h3, hv, hu⟩
  · have hi : (List.zipWith D.pr xs ys).length ≤ i := hi
    rw [hlen] at hi
    rw [RepL.length h2, RepL.length h4]
    omega
  · obtain ⟨T, x1, y1, rfl, nT, rfl, f1, f2⟩ := hy
    have hd : (List.zipWith D.pr xs ys)[i]? = some d' := hd
    obtain ⟨v1, hv1⟩ : ∃ v, xs[i]? = some v := by
      have := (List.getElem?_eq_some_iff.mp hd).1
      rw [hlen] at this
      exact ⟨_, List.getElem?_eq_getElem (show i < xs.length by omega)⟩
    obtain ⟨v2, hv2⟩ : ∃ v, ys[i]? = some v := by
      have := (List.getElem?_eq_some_iff.mp hd).1
      rw [hlen] at this
      exact ⟨_, List.getElem?_eq_getElem (show i < ys.length by omega)⟩
    rw [List.getElem?_zipWith, hv1, hv2] at hd
    cases hd
    obtain ⟨u1, hu1, r1⟩ := RepL.get h2 hv1
    obtain ⟨u2, hu2, r2⟩ := RepL.get h4 hv2
    have e1 := f1 vs h1
    have e2 := f2 us h3
    rw [hu1] at e1; cases e1
    rw [hu2] at e2; cases e2
    obtain ⟨l2, R2, r⟩ := R.newP nT r1 r2
    exact ⟨_, l2, R2, r⟩
theorem di_zip {es : List Expr} {kk : Nat} {tpos : Pos} {a b : Expr} {f : M (List D)} {p pos : Pos} (hm : X.mg "zip" = none) (h : DA X W [a, b] f) (hg : Gl X "zip" := by rfl)
    (hs : starEach [a, b] X.env = (false, eval a X.env) :: starEach [b] X.env := by rfl) (hpl : (backTo pos (starEach [b] X.env)).any (·.1) = false := by rfl) :
    DI X W (.Tuple es kk tpos) (.Call (.Name "zip" p) [a, b] [] pos) (bnd f zipI) := by
  obtain ⟨t, q, r⟩ := h
  refine ⟨_, pi_zip hg hm q hs hpl, fun w H σ s R0 R z => ?_⟩
  refine r.bnd R z fun ds s1 w1 H1 vs l1 R1 r1 p1 => ?_
  cases r1 with
  | nil => exact p1.elim
  | cons h t =>
    cases t with
    | nil => exact p1.elim
    | cons h2 t2 =>
      cases t2 with
      | cons _ _ => exact p1.elim
      | nil =>
        unfold zipI at p1
        dsimp only at p1
        split at p1
        · next xs ys hx hy =>
          obtain ⟨a', vs, e1, q1, q2⟩ := R1.list h hx
          subst e1
          obtain ⟨b', us, e2, q3, q4⟩ := R1.list h2 hy
          subst e2
          exact ⟨a', b', vs, us, rfl, q1, q3, p1 w1 H1 _ (Le.refl _ _) R1 (pI_zip h h2)⟩
        · exact p1.elim
/-! ### targets of two, three names -/
def unp2 (i j : Nat) (d : D) : M Out := fun s => match d with
  | .tup [x, y] => .ok .nx { s with loc := (s.loc.set i (some x)).set j (some y) }
  | .pr x y => .ok .nx { s with loc := (s.loc.set i (some x)).set j (some y) }
  | _ => .bad
theorem dg_two {i j : Nat} {x y : Str} {kk : Nat} {p1 p2 pos : Pos} (hc : X.calm = true) (hN : X.N.Nodup) (hi : X.N[i]? = some x := by rfl) (hj : X.N[j]? = some y := by rfl) (hx : Loc X.env.scope x := by first | exact Or.inl rfl | exact Or.inr rfl) (hy : Loc X.env.scope y := by first | exact Or.inl rfl | exact Or.inr rfl)
    (hf : X.fn x = true ∨ X.env.scope.names.lookup x = some .local := by first | exact .inl rfl | exact .inr rfl) (hf2 : X.fn y = true ∨ X.env.scope.names.lookup y = some .local := by first | exact .inl rfl | exact .inr rfl)
    (hn : (assignEach [.Name x p1, .Name y p2] X.env).length = 2 := by rfl) (hst : (assignEach [.Name x p1, .Name y p2] X.env).findIdx? (·.1) = none := by rfl)
    (hs1 : (assignEach [.Name x p1, .Name y p2] X.env).map (·.2) = assign (.Name x p1) X.env :: (assignEach [.Name y p2] X.env).map (·.2) := by rfl) (hs2 : (assignEach [.Name y p2] X.env).map (·.2) = assign (.Name y p2) X.env :: (assignEach [] X.env).map (·.2) := by rfl) :
    DG X (.Tuple [.Name x p1, .Name y p2] kk pos) (unp2 i j) := by
  refine ⟨_, pg_tup hc (pgs_cons (pg_name hN hi hx hf) (pgs_cons (pg_name hN hj hy hf2) pgs_nil hs2) hs1) hn hst, fun w H σ s v d Q R r p => ?_⟩
  unfold unp2 at p
  split at p
  · next d1 d2 =>
    obtain ⟨a, vs, rfl, h1, h2⟩ := R.tuple r (ds := [d1, d2]) rfl
    cases h2 with
    | cons r1 t1 =>
      cases t1 with
      | cons r2 t2 =>
        cases t2
        exact ⟨a, _, rfl, h1, rfl, _, _, rfl, _, _, rfl, rfl, p w H _ (Le.refl _ _) ((R.set r1).set r2)⟩
  · next d1 d2 =>
    cases r with
    | pr h1 r1 r2 => exact ⟨_, _, rfl, sqT_up R.sub h1, rfl, _, _, rfl, _, _, rfl, rfl, p w H _ (Le.refl _ _) ((R.set r1).set r2)⟩
  · exact p.elim
theorem unp2_ok {i j : Nat} (d : D) (s : S) : (∃ s', unp2 i j d s = .ok .nx s') ∨ unp2 i j d s = .bad := by
  unfold unp2
  split
  · exact .inl ⟨_, rfl⟩
  · exact .inl ⟨_, rfl⟩
  · exact .inr rfl
end Fx

namespace Fx
open PySem PySem.Spec PyProof.Rows L2
open Classical
variable {X : Cx} {W : WX}
/-! ### [e for x in it if c]: the block's name in slot i -/
def yesM : M Bool := ret true
noncomputable def lcLoop (ok : S → Prop) (i : Nat) (c : M Bool) (e : M D) (l0 l : List (Option D)) : List D → List D → M Cell
  | [], acc => fun s => if ok s then .ok (.lst acc) { s with loc := l } else .bad
  | d :: ds, acc => fun s => if ok s ∧ acc.length < sizeLine then (match c { s with loc := l0.set i (some d) } with
    | .ok true s1 => match e s1 with
      | .ok y s2 => lcLoop ok i c e l0 l ds (acc ++ [y]) { s2 with loc := l0 }
      | _ => .bad
    | .ok false s1 => lcLoop ok i c e l0 l ds acc { s1 with loc := l0 }
    | _ => .bad) else .bad
noncomputable def lcM (f : M Wk) (i : Nat) (c : M Bool) (e : M D) : M Cell := bnd f fun it s => lcLoop it.ok i c e (s.loc.set i none) s.loc it.items [] { s with loc := s.loc.set i none }
theorem set_set_none {α : Type} {l : List (Option α)} {i : Nat} {x : Option α} : ((l.set i none).set i x).set i none = l.set i none := by
  rw [List.set_set, List.set_set]
theorem RS.wipe {K : PySem.W.Frag} {w : Wd} {H : Hp} {σ : L2.St} {s : S} {i : Nat} (R : RS K w H σ s) : RS K w H (σ.set i none) { s with loc := s.loc.set i none } := by
  refine R.other (by rw [List.length_set, List.length_set]; exact R.len) fun j d h => ?_
  by_cases hj : j = i
  · subst hj
    by_cases hl : j < s.loc.length
    · rw [List.getElem?_set_self hl] at h; cases h
    · rw [List.getElem?_eq_none (by rw [List.length_set]; omega)] at h; cases h
  · rw [List.getElem?_set_ne (Ne.symm hj)] at h ⊢
    exact R.loc j d h
/-- the slots that hold the locals l, by w -/
def LocOk (K : PySem.W.Frag) (w : Wd) (σ : L2.St) (l : List (Option D)) : Prop := σ.length = l.length ∧ ∀ (i : Nat) d, l[i]? = some (some d) → ∃ v, σ[i]? = some (some v) ∧ Rep K w v d
theorem LocOk.up {K : PySem.W.Frag} {w w' : Wd} {σ : L2.St} {l : List (Option D)} (h : LocOk K w σ l) (le : w.le w') : LocOk K w' σ l := ⟨h.1, fun i d e => let ⟨v, a, b⟩ := h.2 i d e; ⟨v, a, b.upW le⟩⟩
theorem RS.locOk {K : PySem.W.Frag} {w : Wd} {H : Hp} {σ : L2.St} {s : S} (R : RS K w H σ s) : LocOk K w σ s.loc := ⟨R.len, R.loc⟩
theorem RS.withLoc {K : PySem.W.Frag} {w : Wd} {H : Hp} {σ σ' : L2.St} {s : S} {l : List (Option D)} (R : RS K w H σ s) (h : LocOk K w σ' l) : RS K w H σ' { s with loc := l } := R.other h.1 h.2
theorem Le.mut {w w1 : Wd} {H H1 : Hp} {p : Addr} {o : HO} (l : Le w H w1 H1) (hp : H p = none) : Le w H w1 (upd H1 p o) := ⟨l.le, fun a q e h => by rw [upd_ne (ne_of_none e hp)]; exact l.keep a q e h, l.newρ, l.newF⟩
/-- a tracked thing that is neither frozen nor a cell may change -/
theorem RS.mut {K : PySem.W.Frag} {w : Wd} {H : Hp} {σ : L2.St} {s : S} {p : Addr} {o : HO} (R : RS K w H σ s) (hf : w.F p = none) (hr : p ∉ w.ρ) : RS K w (upd H p o) σ s :=
  ⟨fun a q e => by rw [upd_ne (ne_of_none e hf)]; exact R.sub a q e, R.len, R.loc, R.cl, R.nd, R.out, fun n a c e1 e2 => (R.cells n a c e1 e2).upW (Wd.le.refl w) (upd_ne fun (e : a = p) => hr (e ▸ List.mem_of_getElem? e1))⟩
theorem DN.pe {e : Expr} {f : M Cell} (h : DN X W e f) : PE X e (tM X.K W (pN X.K) f) := by
  obtain ⟨t, p, r⟩ := h
  exact ⟨fun pins s σ H Q I ⟨w, z, R, q⟩ => p.run pins s σ H Q I (r w H σ z Q R q)⟩
def tests (ifs : List Expr) (X : Cx) (c : M Bool) : Prop := PTs X ifs (tM X.K W0 pB c)
theorem tests_nil : tests [] X yesM := ⟨fun pins s σ H Q I ⟨w, z, R, q⟩ => pts_nil.run pins s σ H Q I (Post.here q R rfl)⟩
theorem tests_one {e : Expr} {c : M Bool} (h : DT X W0 e c) : tests [e] X c := pts_one h.pt
theorem lc_fol {wi : TI} {n : Str} {i : Nat} {fi : M Wk} {c : M Bool} {fe : M D} (r : Fol X.K W (pI X.K) wi fi) : Fol X.K W (pN X.K) (tLc wi (gName i) (tM X.K W0 pB c) (tM X.K W0 (pD X.K) fe) ([(n, i)].map (·.2))) (lcM fi i c fe) := by
  intro w H σ s Q R z
  refine r.bnd R z fun it s1 w1 H1 J l1 R1 r1 p1 => ?_
  intro Dl hD
  have fr := R1.fresh hD
  have z1 : Post X.K W (pN X.K) w1 H1 σ (lcLoop it.ok i c fe (s1.loc.set i none) s1.loc it.items [] { s1 with loc := s1.loc.set i none }) Q := p1
  have ew : L2.wipe σ ([(n, i)].map (·.2)) = σ.set i none := rfl
  -- what holds between two turns
  refine ⟨fun k m H' => m = it.items.length - k ∧ k ≤ it.items.length ∧ ∃ w' s' acc, Le w1 H1 w' H' ∧ RS X.K w' H' (σ.set i none) s' ∧ s'.loc = s1.loc.set i none ∧ w'.F Dl = none ∧ Dl ∉ w'.ρ ∧ (∃ vs, H' Dl = some (.lst vs) ∧ RepL X.K w' vs acc) ∧
    Post X.K W (pN X.K) w1 H1 σ (lcLoop it.ok i c fe (s1.loc.set i none) s1.loc (it.items.drop k) acc s') Q, ⟨_, rfl, Nat.zero_le _, w1, { s1 with loc := s1.loc.set i none }, [], Le.laid hD, (R1.laid hD).wipe, rfl, fr.1, fr.2, ⟨[], upd_same, .nil⟩, z1⟩, ?_⟩
  rintro k m H' ⟨rfl, hk, w', s', acc, l', R', el, hF, hρ, ⟨vs, hvs, racc⟩, z'⟩
  by_cases hlt : k < it.items.length
  · obtain ⟨d, hd⟩ : ∃ d, it.items[k]? = some d := ⟨_, List.getElem?_eq_getElem hlt⟩
    have ed : it.items.drop k = d :: it.items.drop (k + 1) := by
      rw [List.drop_eq_getElem_cons hlt]
      rw [List.getElem?_eq_getElem hlt] at hd
      rw [Option.some.inj hd]
    rw [ed] at z'
    unfold lcLoop at z'
    by_cases hok : it.ok s' ∧ acc.length < sizeLine
    · rw [if_pos hok] at z'
      obtain ⟨h1, h2, h3⟩ := r1 w' H' _ s' l'.le R' hok.1 k
      refine .inr ⟨h1 hlt, fun H2 => (k + 1 ≤ it.items.length ∧ ∃ w' s' acc, Le w1 H1 w' H2 ∧ RS X.K w' H2 (σ.set i none) s' ∧ s'.loc = s1.loc.set i none ∧ w'.F Dl = none ∧ Dl ∉ w'.ρ ∧ (∃ vs, H2 Dl = some (.lst vs) ∧ RepL X.K w' vs acc) ∧
        Post X.K W (pN X.K) w1 H1 σ (lcLoop it.ok i c fe (s1.loc.set i none) s1.loc (it.items.drop (k + 1)) acc s') Q), fun H2 hh => ⟨it.items.length - (k + 1), by omega, rfl, hh⟩, fun x H2 hy => ?_⟩
      obtain ⟨w2, l2, R2, r2⟩ := h3 x H2 hy d hd
      rw [ew]
      refine ⟨set_set_none, ?_⟩
      have R2s := R2.set (i := i) r2
      rw [el] at R2s
      -- the new list from one state to a later one
      have carry : ∀ {w5 : Wd} {H5 : Hp}, Le w' H' w5 H5 → w5.F Dl = none ∧ Dl ∉ w5.ρ ∧ H5 Dl = some (.lst vs) := fun {w5 H5} l5 => by
        refine ⟨?_, fun h => ?_, l5.keep Dl _ hvs hρ⟩
        · cases q : w5.F Dl with
          | none => rfl
          | some o =>
            rcases l5.newF Dl o q with h | h | h
            · rw [hF] at h; cases h
            · rw [hvs] at h; cases h
            · exact (hρ h).elim
        · rcases l5.newρ Dl h with h | h
          · exact hρ h
          · rw [hvs] at h; cases h
      have loc0 : LocOk X.K w1 (σ.set i none) (s1.loc.set i none) := R1.wipe.locOk
      refine ⟨w2, _, R2s, ?_⟩
      have z' : Post X.K W (pN X.K) w1 H1 σ (match c { s' with loc := (s1.loc.set i none).set i (some d) } with
        | .ok true s1' => match fe s1' with
          | .ok y s2 => lcLoop it.ok i c fe (s1.loc.set i none) s1.loc (it.items.drop (k + 1)) (acc ++ [y]) { s2 with loc := s1.loc.set i none }
          | _ => .bad
        | .ok false s1' => lcLoop it.ok i c fe (s1.loc.set i none) s1.loc (it.items.drop (k + 1)) acc { s1' with loc := s1.loc.set i none }
        | _ => .bad) Q := z'
      cases hcc : c { s' with loc := (s1.loc.set i none).set i (some d) } with
      | exc _ _ => rw [hcc] at z'; exact z'.elim
      | bad => rw [hcc] at z'; exact z'.elim
      | ok b s3 =>
        rw [hcc] at z'
        rintro w3 H3 b' l3 R3 eb
        have eb : b' = b := eb
        subst eb
        cases b' with
        | false =>
          obtain ⟨c1, c2, c3⟩ := carry (l2.trans l3)
          have lt := l'.trans (l2.trans l3)
          exact ⟨hlt, w3, { s3 with loc := s1.loc.set i none }, acc, lt, R3.withLoc (loc0.up lt.le), rfl, c1, c2, ⟨vs, c3, racc.up (l2.trans l3)⟩, z'⟩
        | true =>
          refine ⟨w3, s3, R3, ?_⟩
          have z' : Post X.K W (pN X.K) w1 H1 σ (match fe s3 with
            | .ok y s2 => lcLoop it.ok i c fe (s1.loc.set i none) s1.loc (it.items.drop (k + 1)) (acc ++ [y]) { s2 with loc := s1.loc.set i none }
            | _ => .bad) Q := z'
          cases hee : fe s3 with
          | exc _ _ => rw [hee] at z'; exact z'.elim
          | bad => rw [hee] at z'; exact z'.elim
          | ok y s4 =>
            rw [hee] at z'
            rintro w4 H4 v l4 R4 ry
            have lt := l2.trans (l3.trans l4)
            obtain ⟨c1, c2, c3⟩ := carry lt
            have lt1 := l'.trans lt
            refine ⟨vs, c3, by rw [RepL.length racc]; exact hok.2, hlt, w4, { s4 with loc := s1.loc.set i none }, acc ++ [y], lt1.mut hD, (R4.withLoc (loc0.up lt1.le)).mut c1 c2, rfl, c1, c2, ⟨vs ++ [v], upd_same, RepL.append (racc.up lt) (.cons ry .nil)⟩, z'⟩
    · rw [if_neg hok] at z'; exact z'.elim
  · have hk' : it.items.length ≤ k := by omega
    rw [List.drop_eq_nil_of_le hk'] at z'
    unfold lcLoop at z'
    by_cases hok : it.ok s'
    · rw [if_pos hok] at z'
      obtain ⟨h1, h2, h3⟩ := r1 w' H' _ s' l'.le R' hok k
      refine .inl ⟨h2 hk', z' w' H' _ l' (R'.withLoc (R1.locOk.up l'.le)) ⟨Dl, rfl, hF, hρ, ⟨vs, hvs, racc⟩, hD⟩⟩
    · rw [if_neg hok] at z'; exact z'.elim
theorem dn_lc {elt tg iter : Expr} {ifs : List Expr} {scope : Scope} {n : Str} {i : Nat} {pos : Pos} {fi : M Wk} {c : M Bool} {fe : M D} (hc : X.calm = true) (hN : X.N.Nodup) (hi : DI X W tg iter fi) (ok : BlkOk X.N X.env.scope scope [(n, i)])
    (hg : ∀ (s : Shared) (H : Hp) (C : Addr) (cl : List (Str × Addr)) (fp : List Addr), PG (X.blk s H scope (compEnvC scope cl C X.env) fp) tg (gName i))
    (ht : ∀ (s : Shared) (H : Hp) (C : Addr) (cl : List (Str × Addr)) (fp : List Addr), tests ifs (X.blk s H scope (compEnvC scope cl C X.env) fp) c)
    (he : ∀ (s : Shared) (H : Hp) (C : Addr) (cl : List (Str × Addr)) (fp : List Addr), DE (X.blk s H scope (compEnvC scope cl C X.env) fp) W0 elt fe) (hs : ∀ x, foldedSetIterable iter X.env x = pure x := by intro _; rfl) :
    DN X W (.ListComp elt [⟨tg, iter, ifs, 0⟩] scope pos) (lcM fi i c fe) := by
  obtain ⟨wi, p, r⟩ := hi
  exact ⟨_, pe_lc (tt := tM X.K W0 pB c) (te := tM X.K W0 (pD X.K) fe) hc hN p ok hg (fun s H C cl fp => ht s H C cl fp) (fun s H C cl fp => (he s H C cl fp).pe) hs, lc_fol r⟩
/-- y = [..] on one line: frozen, or a cell -/
theorem DE.asg_fol {te : TE} {f : M D} {j : Nat} (h : Fol X.K W (pD X.K) te f) : FolS X.K W (tAsg te (gName j)) (asgM f (setL j)) := fun w H σ s D R z =>
  h.bndS R z fun d s1 w1 H1 v1 l1 R1 r1 p1 => p1 w1 H1 _ (Le.refl _ _) (R1.set r1)
section
variable {elt tg iter : Expr} {ifs : List Expr} {scope : Scope} {n y : Str} {i j : Nat} {py pos spos : Pos} {fi : M Wk} {c : M Bool} {fe : M D}
theorem ds_lc (own : Bool) (hc : X.calm = true) (hN : X.N.Nodup) (hi : DI X W tg iter fi) (ok : BlkOk X.N X.env.scope scope [(n, i)])
    (hg : ∀ (s : Shared) (H : Hp) (C : Addr) (cl : List (Str × Addr)) (fp : List Addr), PG (X.blk s H scope (compEnvC scope cl C X.env) fp) tg (gName i))
    (ht : ∀ (s : Shared) (H : Hp) (C : Addr) (cl : List (Str × Addr)) (fp : List Addr), tests ifs (X.blk s H scope (compEnvC scope cl C X.env) fp) c)
    (he : ∀ (s : Shared) (H : Hp) (C : Addr) (cl : List (Str × Addr)) (fp : List Addr), DE (X.blk s H scope (compEnvC scope cl C X.env) fp) W0 elt fe)
    (hsw : swapsWith (.ListComp elt [⟨tg, iter, ifs, 0⟩] scope pos) (some (.Name y py)) spos.line X.env = pure true) (hy : X.N[j]? = some y := by rfl) (hyl : X.env.scope.names.lookup y = some .local := by rfl) (hs : ∀ x, foldedSetIterable iter X.env x = pure x := by intro _; rfl) :
    DS X W (.Assign [.Name y py] (.ListComp elt [⟨tg, iter, ifs, 0⟩] scope pos) spos) (asgM (if own = true then ownM (lcM fi i c fe) else frzM (lcM fi i c fe)) (setL j)) := by
  obtain ⟨wi, p, r⟩ := hi
  have f : Fol X.K W (pN X.K) (tLc wi (gName i) (tM X.K W0 pB c) (tM X.K W0 (pD X.K) fe) ([(n, i)].map (·.2))) (lcM fi i c fe) := lc_fol r
  refine ⟨_, ps_setLc (tt := tM X.K W0 pB c) (te := tM X.K W0 (pD X.K) fe) hc hN hy hyl hsw p ok hg (fun s H C cl fp => ht s H C cl fp) (fun s H C cl fp => (he s H C cl fp).pe) hs, ?_⟩
  cases own with
  | true => exact DE.asg_fol (own_fol f)
  | false => exact DE.asg_fol (frz_fol f)
end
end Fx

namespace Fx
open PySem PySem.Spec PyProof.Rows L2
open Classical
variable {X : Cx} {W : WX}
/-! ### what a def hands back: its new cells as trees -/
mutual
/-- no cell from b on -/
def nc (b : Nat) : D → Bool
  | .cell n => decide (n < b)
  | .tup xs => ncL b xs
  | .lst xs => ncL b xs
  | .pr x y => nc b x && nc b y
  | _ => true
def ncL (b : Nat) : List D → Bool
  | [] => true
  | x :: xs => nc b x && ncL b xs
end
def mapO (f : D → Option D) : List D → Option (List D)
  | [] => some []
  | x :: xs => match f x, mapO f xs with
    | some y, some ys => some (y :: ys)
    | _, _ => none
def thaw (vh : List Cell) (b : Nat) : Nat → D → Option D
  | 0, d => if nc b d = true then some d else none
  | k + 1, d => if nc b d = true then some d else match d with
    | .cell n => match vh[n]? with
      | some (.lst ds) => (mapO (thaw vh b k) ds).map .lst
      | _ => none
    | .tup ds => (mapO (thaw vh b k) ds).map .tup
    | .lst ds => (mapO (thaw vh b k) ds).map .lst
    | _ => none
def Wd.fall (w : Wd) (b : Nat) (H : Hp) : Wd := ⟨w.ρ.take b, fun a => match w.F a with
  | some o => some o
  | none => if a ∈ w.ρ.drop b then H a else none⟩
section
variable {K : PySem.W.Frag} {w w0 : Wd} {H H0 : Hp} {σ : L2.St} {s : S} {b : Nat}
theorem fall_F {a : Addr} {o : HO} (h : w.F a = some o) : (w.fall b H).F a = some o := by
  show (match w.F a with | some o => some o | none => if a ∈ w.ρ.drop b then H a else none) = some o
  rw [h]
mutual
theorem nc_rep : ∀ {v : V} {d : D}, Rep K w v d → nc b d = true → Rep K (w.fall b H) v d
  | _, _, .non, _ => .non
  | _, _, .bl x, _ => .bl x
  | _, _, .int i, _ => .int i
  | _, _, .str x, _ => .str x
  | _, _, .ref a, _ => .ref a
  | _, _, .emp h, _ => .emp (fall_F h)
  | _, _, .tup h t, c => .tup (h.up (fun _ _ e => fall_F e)) (nc_repL t (by simpa [nc] using c))
  | _, _, .pr h r q, c => by
    unfold nc at c
    rw [Bool.and_eq_true] at c
    exact .pr (sqT_up (fun _ _ e => fall_F e) h) (nc_rep r c.1) (nc_rep q c.2)
  | _, _, .lst h t, c => .lst (sqL_up (fun _ _ e => fall_F e) h) (nc_repL t (by simpa [nc] using c))
  | _, _, .cell (n := n) h, c => .cell (by
      have hn : n < b := by simpa [nc] using c
      show (w.ρ.take b)[n]? = _
      rw [List.getElem?_take, if_pos hn]; exact h)
theorem nc_repL : ∀ {vs : List V} {ds : List D}, RepL K w vs ds → ncL b ds = true → RepL K (w.fall b H) vs ds
  | _, _, .nil, _ => .nil
  | _, _, .cons h t, c => by
    have c : (nc b _ && ncL b _) = true := c
    rw [Bool.and_eq_true] at c
    exact .cons (nc_rep h c.1) (nc_repL t c.2)
end
mutual
theorem nc_of : ∀ {v : V} {d : D}, Rep K w0 v d → w0.ρ.length ≤ b → nc b d = true
  | _, _, .non, _ => rfl
  | _, _, .bl x, _ => rfl
  | _, _, .int i, _ => rfl
  | _, _, .str x, _ => rfl
  | _, _, .ref a, _ => rfl
  | _, _, .emp h, _ => rfl
  | _, _, .tup h t, c => by unfold nc; exact nc_ofL t c
  | _, _, .pr h r q, c => by unfold nc; rw [nc_of r c, nc_of q c]; rfl
  | _, _, .lst h t, c => by unfold nc; exact nc_ofL t c
  | _, _, .cell (n := n) h, c => by
    have := (List.getElem?_eq_some_iff.mp h).1
    unfold nc; exact decide_eq_true (by omega)
theorem nc_ofL : ∀ {vs : List V} {ds : List D}, RepL K w0 vs ds → w0.ρ.length ≤ b → ncL b ds = true
  | _, _, .nil, _ => rfl
  | _, _, .cons h t, c => by
    unfold ncL
    rw [nc_of h c, nc_ofL t c]; rfl
end
theorem nc_repK : ∀ {vs vs0 : List (Key × V)} {ds : List (Key × D)}, RepK K w vs ds → RepK K w0 vs0 ds → w0.ρ.length ≤ b → RepK K (w.fall b H) vs ds
  | _, _, _, .nil, _, _ => .nil
  | _, _, _, .cons h t, .cons h0 t0, c => .cons (nc_rep h (nc_of h0 c)) (nc_repK t t0 c)
theorem nc_repF : ∀ {vs vs0 : List (Str × V)} {ds : List (Str × D)}, RepF K w vs ds → RepF K w0 vs0 ds → w0.ρ.length ≤ b → RepF K (w.fall b H) vs ds
  | _, _, _, .nil, _, _ => .nil
  | _, _, _, .cons h t, .cons h0 t0, c => .cons (nc_rep h (nc_of h0 c)) (nc_repF t t0 c)
mutual
theorem nk_nc {b : Nat} : ∀ {d : D} {q : NestedKey}, nkD d = some q → nc b d = true
  | .non, _, _ => rfl
  | .bl _, _, _ => rfl
  | .int _, _, _ => rfl
  | .str _, _, _ => rfl
  | .tup ds, q, h => by
    unfold nkD at h
    unfold nc
    cases e : nkL ds with
    | none => rw [e] at h; cases h
    | some ks => exact nk_ncL e
  | .lst _, _, h => by cases h
  | .cell _, _, h => by cases h
  | .ref _, _, h => by cases h
  | .pr _ _, _, h => by cases h
  | .emp, _, h => by cases h
theorem nk_ncL {b : Nat} : ∀ {ds : List D} {ks : List NestedKey}, nkL ds = some ks → ncL b ds = true
  | [], _, _ => rfl
  | d :: r, _, h => by
    unfold nkL at h
    unfold ncL
    cases e1 : nkD d with
    | none => rw [e1] at h; cases h
    | some k =>
      cases e2 : nkL r with
      | none => rw [e1, e2] at h; cases h
      | some ks => rw [nk_nc e1, nk_ncL e2]; rfl
end
theorem nc_repN : ∀ {xs xs0 : NX} {ds : List (NestedKey × D)}, RepN K w xs ds → RepN K w0 xs0 ds → w0.ρ.length ≤ b → RepN K (w.fall b H) xs ds
  | _, _, _, .nil, _, _ => .nil
  | _, _, _, .cons hk hq r ru h t, .cons _ _ _ _ h0 t0, c => .cons hk hq (nc_rep r (nk_nc hk)) ru (nc_rep h (nc_of h0 c)) (nc_repN t t0 c)
theorem mapO_rep {f : D → Option D} {w1 : Wd} (ih : ∀ v d d', Rep K w v d → f d = some d' → Rep K w1 v d') : ∀ {vs : List V} {ds ds' : List D}, RepL K w vs ds → mapO f ds = some ds' → RepL K w1 vs ds'
  | _, _, _, .nil, e => by cases e; exact .nil
  | _, _, _, .cons (d := d) (ds := ds) h t, e => by
    unfold mapO at e
    cases h1 : f d with
    | none => rw [h1] at e; cases e
    | some y =>
      cases h2 : mapO f ds with
      | none => rw [h1, h2] at e; cases e
      | some ys =>
        rw [h1, h2] at e; cases e
        exact .cons (ih _ _ _ h h1) (mapO_rep ih t h2)
theorem RepL.nd (R : RS K w H σ s) {n : Nat} {a : Addr} (h : w.ρ[n]? = some a) (hb : b ≤ n) : a ∈ w.ρ.drop b := by
  refine List.mem_of_getElem? (i := n - b) ?_
  rw [List.getElem?_drop, Nat.add_sub_cancel' hb]; exact h
theorem thaw_rep (R : RS K w H σ s) : ∀ (k : Nat) {v : V} {d d' : D}, Rep K w v d → thaw s.vh b k d = some d' → Rep K (w.fall b H) v d'
  | 0, v, d, d', r, e => by
    unfold thaw at e
    split at e
    · next c => cases e; exact nc_rep r c
    · cases e
  | k + 1, v, d, d', r, e => by
    unfold thaw at e
    split at e
    · next c => cases e; exact nc_rep r c
    · next c =>
      have ih : ∀ {v : V} {d d' : D}, Rep K w v d → thaw s.vh b k d = some d' → Rep K (w.fall b H) v d' := fun r q => thaw_rep R k r q
      cases r with
      | tup h t =>
        dsimp only at e
        cases h2 : mapO (thaw s.vh b k) _ with
        | none => rw [h2] at e; cases e
        | some ys => rw [h2] at e; cases e; exact .tup (h.up (fun _ _ e => fall_F e)) (mapO_rep (fun _ _ _ r q => ih r q) t h2)
      | lst h t =>
        dsimp only at e
        cases h2 : mapO (thaw s.vh b k) _ with
        | none => rw [h2] at e; cases e
        | some ys => rw [h2] at e; cases e; exact .lst (sqL_up (fun _ _ e => fall_F e) h) (mapO_rep (fun _ _ _ r q => ih r q) t h2)
      | @cell a n h =>
        dsimp only at e
        have hn : ¬ n < b := by simpa [nc] using c
        obtain ⟨cc, e1, hc⟩ := R.cellOf h
        rw [e1] at e
        cases cc with
        | dct _ => cases e
        | obj _ _ => cases e
        | dctL _ _ _ => cases e
        | dctN _ _ => cases e
        | lst ds =>
          dsimp only at e
          cases h2 : mapO (thaw s.vh b k) ds with
          | none => rw [h2] at e; cases e
          | some ys =>
            rw [h2] at e; cases e
            obtain ⟨vs, q1, q2⟩ := hc
            refine .lst (SqL.of ?_) (mapO_rep (fun _ _ _ r q => ih r q) q2 h2)
            show (match w.F _ with | some o => some o | none => if _ ∈ w.ρ.drop b then H _ else none) = _
            rw [R.out _ (List.mem_of_getElem? h)]
            show (if _ ∈ w.ρ.drop b then H _ else none) = _
            rw [if_pos (RepL.nd R h (by omega))]; exact q1
      | pr h r q => cases e
      | _ => simp [nc] at c
/-- the caller's state behind a def that changed nothing of it -/
theorem RS.back {σ0 : L2.St} {s0 : S} (R0 : RS K w0 H0 σ0 s0) (l : Le w0 H0 w H) (R : RS K w H σ s) (hp : s.vh.take s0.vh.length = s0.vh) (hb : b = s0.vh.length) : Le w0 H0 (w.fall b H) H ∧ RS K (w.fall b H) H σ0 s0 := by
  subst hb
  have hlen : s0.vh.length ≤ w.ρ.length := by
    rw [R.cl]
    have := congrArg List.length hp
    rw [List.length_take] at this
    omega
  have hρ : ∀ n a, w0.ρ[n]? = some a → (w.ρ.take s0.vh.length)[n]? = some a := fun n a e => by
    have hn : n < s0.vh.length := by rw [← R0.cl]; exact (List.getElem?_eq_some_iff.mp e).1
    rw [List.getElem?_take, if_pos hn]; exact l.le.1 n a e
  have le : w0.le (w.fall s0.vh.length H) := ⟨hρ, fun a o e => fall_F (l.le.2 a o e)⟩
  have outD : ∀ a ∈ w.ρ.drop s0.vh.length, a ∉ w.ρ.take s0.vh.length := fun a h h2 => by
    have nd := R.nd
    rw [← List.take_append_drop s0.vh.length w.ρ, List.nodup_append] at nd
    exact nd.2.2 a h2 a h rfl
  refine ⟨⟨le, l.keep, fun a h => l.newρ a (List.mem_of_mem_take h), fun a o h => ?_⟩, ?_⟩
  · have h : (match w.F a with | some o => some o | none => if a ∈ w.ρ.drop s0.vh.length then H a else none) = some o := h
    cases q : w.F a with
    | some o' => rw [q] at h; cases h; exact l.newF a _ q
    | none =>
      rw [q] at h
      have h : (if a ∈ w.ρ.drop s0.vh.length then H a else none) = some o := h
      split at h
      · next hm =>
        rcases l.newρ a (List.mem_of_mem_drop hm) with z | z
        · exact .inr (.inr z)
        · exact .inr (.inl z)
      · cases h
  · refine ⟨fun a o h => ?_, R0.len, fun i d e => ?_, ?_, R.nd.sublist (List.take_sublist _ _), fun a ha => ?_, fun n a c e1 e2 => ?_⟩
    · have h : (match w.F a with | some o => some o | none => if a ∈ w.ρ.drop s0.vh.length then H a else none) = some o := h
      cases q : w.F a with
      | some o' => rw [q] at h; cases h; exact R.sub a _ q
      | none =>
        rw [q] at h
        have h : (if a ∈ w.ρ.drop s0.vh.length then H a else none) = some o := h
        split at h
        · exact h
        · cases h
    · obtain ⟨v, h1, h2⟩ := R0.loc i d e
      exact ⟨v, h1, h2.upW le⟩
    · show (w.ρ.take s0.vh.length).length = _
      rw [List.length_take]; omega
    · show (match w.F a with | some o => some o | none => if a ∈ w.ρ.drop s0.vh.length then H a else none) = none
      rw [R.out a (List.mem_of_mem_take ha)]
      show (if a ∈ w.ρ.drop s0.vh.length then H a else none) = none
      rw [if_neg fun h => outD a h ha]
    · have e1 : (w.ρ.take s0.vh.length)[n]? = some a := e1
      have hn : n < s0.vh.length := (List.getElem?_eq_some_iff.mp e2).1
      rw [List.getElem?_take, if_pos hn] at e1
      have e2' : s.vh[n]? = some c := by
        rw [← hp, List.getElem?_take, if_pos hn] at e2; exact e2
      have hc := R.cells n a c e1 e2'
      obtain ⟨a0, _, hc0⟩ := R0.addrOf e2
      cases c with
      | lst ds =>
        obtain ⟨vs, q1, q2⟩ := hc
        obtain ⟨vs0, _, q0⟩ := hc0
        exact ⟨vs, q1, nc_repL q2 (nc_ofL q0 (Nat.le_of_eq R0.cl))⟩
      | dct kvs =>
        obtain ⟨vs, q1, q2⟩ := hc
        obtain ⟨vs0, _, q0⟩ := hc0
        exact ⟨vs, q1, nc_repK q2 q0 (Nat.le_of_eq R0.cl)⟩
      | dctN wd kvs =>
        obtain ⟨xs, q1, q2⟩ := hc
        obtain ⟨_, _, q0⟩ := hc0
        exact ⟨xs, q1, nc_repN q2 q0 (Nat.le_of_eq R0.cl)⟩
      | dctL o us kvs =>
        obtain ⟨q1, q2⟩ := hc
        obtain ⟨_, q0⟩ := hc0
        exact ⟨q1, nc_repK q2 q0 (Nat.le_of_eq R0.cl)⟩
      | obj x fs =>
        obtain ⟨C, dx, vs, q0, q1, q2⟩ := hc
        obtain ⟨_, _, vs0, _, _, q3⟩ := hc0
        exact ⟨C, dx, vs, q0, q1, nc_repF q2 q3 (Nat.le_of_eq R0.cl)⟩
end
/-! ### pure defs -/
abbrev Pf := List D → List Cell → Option D
noncomputable def fin (vh : List Cell) (s : S) (d : D) : Option D := if s.vh.take vh.length = vh then thaw s.vh vh.length 8 d else none
def initS (n : Nat) (ds : List D) (vh : List Cell) : S := ⟨ds.map some ++ List.replicate (n - ds.length) none, vh⟩
noncomputable def runP (n : Nat) (g : M Out) : Pf := fun ds vh => match g (initS n ds vh) with
  | .ok (.rt d) s => fin vh s d
  | .ok .nx s => fin vh s .non
  | _ => none
/-- the promise: from data to a datum, nothing of the caller's changed -/
def SpP (K : PySem.W.Frag) (n : Nat) (F : Pf) : Sp := fun vs H Q _ => vs.length = n ∧ ∃ w σ s ds d, RS K w H σ s ∧ RepL K w vs ds ∧ F ds s.vh = some d ∧ ∀ w' H' v, Le w H w' H' → RS K w' H' σ s → Rep K w' v d → Q v H'
theorem fn_pure {P : Program} {wd : World} {K : PySem.W.Frag} {mg : Str → Option Value} {base : Heap} {x qual : Str} {st : Stmt} {f : Addr} {fd : FuncData} {N ps : List Str} {k : Nat} {g : M Out} (F : Fun K x qual st f fd) (Sc : FnScope N ps (defScope st)) (hle : ps.length ≤ N.length)
    (body : ∀ (cdv : Value) (A : Around) (outer : List Env) (s : Shared) (H : Hp) (E : XK), Room k (A.deeper (envOfC qual (defScope st) s.heap.objs.size f cdv)) →
      DSs (cxOf CX0 P wd K mg base N qual (defScope st) f cdv A outer s H E).nox W0 (defBody st) g) : FnOk P wd K mg base CX0 (k + 1) f fd ps (SpP K ps.length (runP N.length g)) := by
  refine F.ok Sc (fun vs H Q E h => h.1) fun cdv A outer s H vs Q E hr h => ?_
  obtain ⟨t, p, r⟩ := body cdv A outer s H E hr
  obtain ⟨hl, w, σ, z, ds, d, R, rv, e, q⟩ := h
  refine ⟨t, p, r w H _ (initS N.length ds z.vh) _ ?_ ?_⟩
  · have hdl := RepL.length rv
    refine R.other (l := ds.map some ++ List.replicate (N.length - ds.length) none) ?_ fun i d hi => ?_
    · show (vs.map some ++ List.replicate (N.length - vs.length) none).length = _
      simp only [List.length_append, List.length_map, List.length_replicate]
      rw [hdl]
    · by_cases hlt : i < ds.length
      · rw [List.getElem?_append_left (by rw [List.length_map]; exact hlt), List.getElem?_map] at hi
        cases h2 : ds[i]? with
        | none => rw [h2] at hi; cases hi
        | some d2 =>
          rw [h2] at hi; cases hi
          obtain ⟨v, h3, h4⟩ := RepL.get rv h2
          refine ⟨v, ?_, h4⟩
          show (vs.map some ++ _)[i]? = _
          rw [List.getElem?_append_left (by rw [List.length_map, hdl]; exact hlt), List.getElem?_map, h3]; rfl
      · rw [List.getElem?_append_right (by rw [List.length_map]; omega)] at hi
        have := List.mem_of_getElem? hi
        rw [List.mem_replicate] at this
        cases this.2
  · show PostS K W0 w H (g (initS N.length ds z.vh)) _
    unfold runP at e
    have fin_ok : ∀ {d0 : D} {s1 : S}, fin z.vh s1 d0 = some d → ∀ w' H' σ' v, Le w H w' H' → RS K w' H' σ' s1 → Rep K w' v d0 → Q v H' := fun {d0 s1} e w' H' σ' v l R' rv => by
      unfold fin at e
      split at e
      · next hp =>
        obtain ⟨l2, R2⟩ := RS.back R l R' hp rfl
        exact q _ _ _ l2 R2 (thaw_rep R' 8 rv e)
      · cases e
    cases hg : g (initS N.length ds z.vh) with
    | bad => rw [hg] at e; cases e
    | exc x s1 => rw [hg] at e; cases e
    | ok o s1 =>
      rw [hg] at e
      cases o with
      | brk => cases e
      | cnt => cases e
      | rt d0 => exact fun w' H' σ' v l R' rv => fin_ok e w' H' σ' v l R' rv
      | nx => exact fun w' H' σ' l R' => fin_ok e w' H' σ' .non l R' .non
/-- a def of the text that keeps such a promise, by its name -/
structure FnP (P : Program) (wd : World) (K : PySem.W.Frag) (mg : Str → Option Value) (base : Heap) (x : Str) (n k : Nat) (F : Pf) : Prop where
  ex : ∃ (f : Addr) (fd : FuncData) (ps : List Str), ps.length = n ∧ mg x = some (.ref f) ∧ PySem.W.keepIn K (.ref f) = true ∧ Binds K fd ps [] ∧ FnOk P wd K mg base CX0 k f fd ps (SpP K n F)
theorem FnP.mono {P : Program} {wd : World} {K : PySem.W.Frag} {mg : Str → Option Value} {base : Heap} {x : Str} {n j k : Nat} {F : Pf} (h : FnP P wd K mg base x n j F) (l : j ≤ k) : FnP P wd K mg base x n k F :=
  let ⟨f, fd, ps, a, b, c, d, e⟩ := h.ex; ⟨f, fd, ps, a, b, c, d, e.mono l⟩
def callP (n : Nat) (F : Pf) (ds : List D) : M D := fun s => if ds.length = n then match F ds s.vh with
  | some d => .ok d s
  | none => .bad else .bad
theorem de_callP {x : Str} {n k : Nat} {F : Pf} {e : Expr} {es : List Expr} {fs : M (List D)} {p pos : Pos} (h : FnP X.prog X.w X.K X.mg X.base x n k F) (hr : Room k X.A) (ha : DA X W (e :: es) fs) (hg : Gl X x := by rfl) (hdb : (x == ("__debug__" : Str)) = false := by decide)
    (he : starEach (e :: es) X.env = (false, eval e X.env) :: starEach es X.env := by rfl) (hpl : (backTo pos (starEach es X.env)).any (·.1) = false := by rfl) : DE X W (.Call (.Name x p) (e :: es) [] pos) (bnd fs (callP n F)) := by
  obtain ⟨f, fd, ps, hps, hm, hk, hb, G⟩ := h.ex
  obtain ⟨t, q, r⟩ := ha
  refine ⟨_, pe_call G hr hg hm hk hb .nil pass0 q hdb he hpl, fun w H σ s Q R z => ?_⟩
  refine r.bnd R z fun ds s1 w1 H1 vs l1 R1 r1 p1 => ?_
  have p1 : Post X.K W (pD X.K) w1 H1 σ (if ds.length = n then match F ds s1.vh with
    | some d => .ok d s1
    | none => .bad else .bad) Q := p1
  by_cases hl : ds.length = n
  · rw [if_pos hl] at p1
    cases hF : F ds s1.vh with
    | none => rw [hF] at p1; exact p1.elim
    | some d =>
      rw [hF] at p1
      refine ⟨?_, w1, σ, s1, ds, d, R1, ?_, hF, fun w' H' v l R' r' => p1 w' H' v l R' r'⟩
      · rw [List.append_nil, RepL.length r1]; exact hl
      · rw [List.append_nil]; exact r1
  · rw [if_neg hl] at p1; exact p1.elim
end Fx

namespace Fx
open PySem PySem.Spec PyProof.Rows L2
variable {X : Cx} {W : WX}
/-! ### built-in calls -/
def RCal (X : Cx) (r : List V → Hp → VK → Prop) (g : List D → M D) : Prop := ∀ (W : WX) w H σ s vs ds Q, RS X.K w H σ s → RepL X.K w vs ds → Post X.K W (pD X.K) w H σ (g ds s) Q → r vs H Q
def RCalN (X : Cx) (r : List V → Hp → VK → Prop) (g : List D → M Cell) : Prop := ∀ (W : WX) w H σ s vs ds Q, RS X.K w H σ s → RepL X.K w vs ds → Post X.K W (pN X.K) w H σ (g ds s) Q → r vs H Q
section
variable {id : String} {r : List V → Hp → VK → Prop} {x : Str} {e : Expr} {es : List Expr} {fs : M (List D)} {p pos : Pos} {T : String}
theorem de_callB {g : List D → M D} (hc : CallR X (.builtin id) r) (hr : RCal X r g) (hm : X.mg x = none) (ha : DA X W (e :: es) fs) (hv : bootBuiltins x = some (.builtin id)) (hg : Gl X x := by rfl) (hn : x ≠ "__name__" := by decide) (hdb : (x == ("__debug__" : Str)) = false := by decide)
    (he : starEach (e :: es) X.env = (false, eval e X.env) :: starEach es X.env := by rfl) (hpl : (backTo pos (starEach es X.env)).any (·.1) = false := by rfl) : DE X W (.Call (.Name x p) (e :: es) [] pos) (bnd fs g) := by
  obtain ⟨t, q, k⟩ := ha
  refine ⟨_, pe_callB hc hg hm hv q hn hdb he hpl, fun w H σ s Q R z => ?_⟩
  exact k.bnd R z fun ds s1 w1 H1 vs l1 R1 r1 p1 => hr W w1 H1 σ s1 vs ds Q R1 r1 p1
theorem dn_callB {g : List D → M Cell} (hc : CallR X (.builtin id) r) (hr : RCalN X r g) (hm : X.mg x = none) (ha : DA X W (e :: es) fs) (hv : bootBuiltins x = some (.builtin id)) (hg : Gl X x := by rfl) (hn : x ≠ "__name__" := by decide) (hdb : (x == ("__debug__" : Str)) = false := by decide)
    (he : starEach (e :: es) X.env = (false, eval e X.env) :: starEach es X.env := by rfl) (hpl : (backTo pos (starEach es X.env)).any (·.1) = false := by rfl) : DN X W (.Call (.Name x p) (e :: es) [] pos) (bnd fs g) := by
  obtain ⟨t, q, k⟩ := ha
  refine ⟨_, pe_callB hc hg hm hv q hn hdb he hpl, fun w H σ s Q R z => ?_⟩
  exact k.bnd R z fun ds s1 w1 H1 vs l1 R1 r1 p1 => hr W w1 H1 σ s1 vs ds Q R1 r1 p1
theorem de_callT {g : List D → M D} (hc : CallR X (.type T) r) (hr : RCal X r g) (hm : X.mg x = none) (ha : DA X W (e :: es) fs) (hv : bootBuiltins x = some (.type T)) (hg : Gl X x := by rfl) (hn : x ≠ "__name__" := by decide) (hdb : (x == ("__debug__" : Str)) = false := by decide)
    (he : starEach (e :: es) X.env = (false, eval e X.env) :: starEach es X.env := by rfl) (hpl : (backTo pos (starEach es X.env)).any (·.1) = false := by rfl) : DE X W (.Call (.Name x p) (e :: es) [] pos) (bnd fs g) := by
  obtain ⟨t, q, k⟩ := ha
  refine ⟨_, pe_callTy hc hg hm hv q hn hdb he hpl, fun w H σ s Q R z => ?_⟩
  exact k.bnd R z fun ds s1 w1 H1 vs l1 R1 r1 p1 => hr W w1 H1 σ s1 vs ds Q R1 r1 p1
theorem dn_callT {g : List D → M Cell} (hc : CallR X (.type T) r) (hr : RCalN X r g) (hm : X.mg x = none) (ha : DA X W (e :: es) fs) (hv : bootBuiltins x = some (.type T)) (hg : Gl X x := by rfl) (hn : x ≠ "__name__" := by decide) (hdb : (x == ("__debug__" : Str)) = false := by decide)
    (he : starEach (e :: es) X.env = (false, eval e X.env) :: starEach es X.env := by rfl) (hpl : (backTo pos (starEach es X.env)).any (·.1) = false := by rfl) : DN X W (.Call (.Name x p) (e :: es) [] pos) (bnd fs g) := by
  obtain ⟨t, q, k⟩ := ha
  refine ⟨_, pe_callTy hc hg hm hv q hn hdb he hpl, fun w H σ s Q R z => ?_⟩
  exact k.bnd R z fun ds s1 w1 H1 vs l1 R1 r1 p1 => hr W w1 H1 σ s1 vs ds Q R1 r1 p1
end
theorem one_of {K : PySem.W.Frag} {w : Wd} {vs : List V} {d : D} (r : RepL K w vs [d]) : ∃ v, vs = [v] ∧ Rep K w v d := by
  cases r with | cons h t => cases t; exact ⟨_, rfl, h⟩
theorem two_of {K : PySem.W.Frag} {w : Wd} {vs : List V} {d e : D} (r : RepL K w vs [d, e]) : ∃ v u, vs = [v, u] ∧ Rep K w v d ∧ Rep K w u e := by
  cases r with | cons h t => cases t with | cons h2 t2 => cases t2; exact ⟨_, _, rfl, h, h2⟩
/-! len -/
def lenM : List D → M D
  | [d] => fun s => match d with
    | .str x => if lenOk x.length = true then .ok (.int x.length) s else .bad
    | .tup ds => .ok (.int ds.length) s
    | d => match lstOf s d with
      | some ds => .ok (.int ds.length) s
      | none => match dctOf s d with
        | some kvs => .ok (.int kvs.length) s
        | none => .bad
  | _ => fail
theorem callR_or {f : Value} {r1 r2 : List V → Hp → VK → Prop} (h1 : CallR X f r1) (h2 : CallR X f r2) : CallR X f (fun xs H Q => r1 xs H Q ∨ r2 xs H Q) := by
  intro pins s σ H xs us Q I r h
  rcases h with h | h
  · exact h1 pins s σ H xs us Q I r h
  · exact h2 pins s σ H xs us Q I r h
theorem RepK.length {K : PySem.W.Frag} {w : Wd} : ∀ {vs : List (Key × V)} {ds : List (Key × D)}, RepK K w vs ds → vs.length = ds.length
  | _, _, .nil => rfl
  | _, _, .cons _ t => by simp only [List.length_cons]; rw [RepK.length t]
theorem rc_len : RCal X (fun xs H Q => (∃ x n, xs = [x] ∧ LenV X.K x H n ∧ Q (.int n) H) ∨ ∃ a kvs, xs = [V.ref a] ∧ H a = some (.dK kvs) ∧ Q (.int kvs.length) H) lenM := by
  intro W w H σ s vs ds Q R r p
  unfold lenM at p
  split at p
  · next d =>
    obtain ⟨v, rfl, rv⟩ := one_of r
    split at p
    · next x =>
      split at p
      · next k => cases rv; exact .inl ⟨_, _, rfl, ⟨of_decide_eq_true k, rfl⟩, Post.here p R (Rep.int _)⟩
      · exact p.elim
    · next es =>
      obtain ⟨a, us, rfl, h1, h2⟩ := R.tuple rv (ds := es) rfl
      refine .inl ⟨_, us.length, rfl, .inr ⟨us, h1, rfl⟩, ?_⟩
      rw [RepL.length h2]; exact Post.here p R (Rep.int _)
    · split at p
      · next es he =>
        obtain ⟨a, us, rfl, h1, h2⟩ := R.list rv he
        refine .inl ⟨_, us.length, rfl, .inl ⟨us, h1, rfl⟩, ?_⟩
        rw [RepL.length h2]; exact Post.here p R (Rep.int _)
      · split at p
        · next kvs he =>
          obtain ⟨a, us, rfl, h1, h2⟩ := R.dict rv he
          refine .inr ⟨_, us, rfl, h1, ?_⟩
          rw [RepK.length h2]; exact Post.here p R (Rep.int _)
        · exact p.elim
  · exact p.elim
theorem de_len {e : Expr} {fs : M (List D)} {p pos : Pos} (hm : X.mg "len" = none) (ha : DA X W [e] fs) (hg : Gl X "len" := by rfl) (he : starEach [e] X.env = (false, eval e X.env) :: starEach [] X.env := by rfl) (hpl : (backTo pos (starEach [] X.env)).any (·.1) = false := by rfl) :
    DE X W (.Call (.Name "len" p) [e] [] pos) (bnd fs lenM) := de_callB (callR_or call_len call_lenD) rc_len hm ha PySem.boot_len hg (by decide) (by decide) he hpl
/-! isinstance of a built-in class -/
def tyName (s : S) : D → Option String
  | .non => some "NoneType"
  | .bl _ => some "bool"
  | .int _ => some "int"
  | .str _ => some "str"
  | .tup _ => some "tuple"
  | .lst _ => some "list"
  | .cell n => match s.vh[n]? with
    | some (.lst _) => some "list"
    | some (.dct _) => some "dict"
    | some (.obj _ _) => none
    | some (.dctL _ _ _) => none
    | some (.dctN _ _) => none
    | none => none
  | .ref _ => none
  | .pr _ _ => none
  | .emp => some "dict"
def isaT (T a : String) : Bool := (a == T) || (T == "int" && a == "bool")
def isaM (T : String) (d : D) : M D := fun s => match tyName s d with
  | some a => .ok (.bl (isaT T a)) s
  | none => .bad
theorem tyx_of {K : PySem.W.Frag} {w : Wd} {H : Hp} {σ : L2.St} {s : S} {v : V} {d : D} {a : String} (R : RS K w H σ s) (r : Rep K w v d) (h : tyName s d = some a) : TyX K H v (.type a) := by
  cases r with
  | non => cases h; exact .base .non
  | bl b => cases h; exact .base (.bl b)
  | int i => cases h; exact .base (.int i)
  | str x => cases h; exact .base (.str x)
  | ref a => cases h
  | pr _ _ _ => cases h
  | emp h1 =>
    cases h
    exact .base (.dK (R.sub _ _ h1))
  | tup h1 t =>
    cases h
    rcases sqT_up R.sub h1.sq with (h2 | ⟨o, h2⟩) | ⟨o, its, n, h2, h3, _⟩
    · exact .base (.tup h2)
    · exact .fTuple h2
    · exact .kTuple h2 h3
  | lst h1 t =>
    cases h
    rcases sqL_up R.sub h1 with (h2 | ⟨o, h2⟩) | ⟨o, its, n, h2, h3, _⟩
    · exact .base (.lst h2)
    · exact .base (.frz h2)
    · exact .kList h2 h3
  | cell h1 =>
    obtain ⟨c, e, hc⟩ := R.cellOf h1
    unfold tyName at h
    simp only [e] at h
    cases c with
    | lst ds => simp at h; subst h; obtain ⟨vs, h2, _⟩ := hc; exact .base (.lst h2)
    | dct ds => simp at h; subst h; obtain ⟨vs, h2, _⟩ := hc; exact .base (.dK h2)
    | obj _ _ => simp at h
    | dctL _ _ _ => simp at h
    | dctN _ _ => simp at h
def sixT : List String := ["int", "bool", "str", "tuple", "list", "dict"]
def sevA : List String := ["NoneType", "bool", "int", "str", "tuple", "list", "dict"]
theorem kit_all : ∀ T ∈ sixT, ∀ a ∈ sevA, kitB a T = some (isaT T a) := by decide +kernel
theorem tyName_in {s : S} {d : D} {a : String} (h : tyName s d = some a) : a ∈ sevA := by
  unfold tyName at h
  split at h <;> first
    | (cases h; decide)
    | (split at h <;> first | (cases h; decide) | cases h)
    | cases h
theorem de_isa (T : String) {e : Expr} {f : M D} {p p2 pos : Pos} (hi : X.mg "isinstance" = none) (hm : X.mg (Str.ofString T) = none) (h : DE X W e f) (hv : bootBuiltins (Str.ofString T) = some (.type T)) (hT : T ∈ sixT := by decide) (hg : Gl X "isinstance" := by rfl) (hg2 : Gl X (Str.ofString T) := by rfl)
    (hn : Str.ofString T ≠ "__name__" := by decide) (hd : (Str.ofString T == ("__debug__" : Str)) = false := by decide)
    (hst : starEach [e, .Name (Str.ofString T) p2] X.env = (false, eval e X.env) :: starEach [.Name (Str.ofString T) p2] X.env := by rfl) (hst2 : starEach [.Name (Str.ofString T) p2] X.env = (false, eval (.Name (Str.ofString T) p2) X.env) :: starEach [] X.env := by rfl)
    (hpl : (backTo pos (starEach [.Name (Str.ofString T) p2] X.env)).any (·.1) = false := by rfl) :
    DE X W (.Call (.Name "isinstance" p) [e, .Name (Str.ofString T) p2] [] pos) (bnd f (isaM T)) := by
  obtain ⟨t, q, k⟩ := h
  refine ⟨_, pe_callB call_isi hg hi (by decide +kernel) (pa_cons q (pa_cons (pe_bltn (v := .ty T) hg2 hm hv rfl hn hd) pa_nil hst2) hst) (by decide) (by decide) hst hpl, fun w H σ s Q R z => ?_⟩
  refine k.bnd R z fun d s1 w1 H1 v l1 R1 r1 p1 => ?_
  have p1 : Post X.K W (pD X.K) w1 H1 σ (match tyName s1 d with
    | some a => .ok (.bl (isaT T a)) s1
    | none => .bad) Q := p1
  cases ht : tyName s1 d with
  | none => rw [ht] at p1; exact p1.elim
  | some a =>
    rw [ht] at p1
    exact ⟨v, .ty T, .type a, .type T, isaT T a, rfl, .ty T, tyx_of R1 r1 ht, kit_ty (kit_all T hT a (tyName_in ht)), Post.here p1 R1 (Rep.bl _)⟩
/-! ### + -/
def addM : D → D → M D
  | .int i, .int j => ret (.int (i + j))
  | .str a, .str b => if lenOk (a.length + b.length) = true then ret (.str (a ++ b)) else fail
  | .tup a, .tup b => if lenOk (a.length + b.length) = true then ret (.tup (a ++ b)) else fail
  | d, e => fun s => match lstOf s d, lstOf s e with
    | some xs, some ys => if lenOk (xs.length + ys.length) = true then .ok (.lst (xs ++ ys)) s else .bad
    | _, _ => .bad
def catN : D → D → M Cell := fun d e s => match lstOf s d, lstOf s e with
  | some xs, some ys => if lenOk (xs.length + ys.length) = true then .ok (.lst (xs ++ ys)) s else .bad
  | _, _ => .bad
def rCatR (K : PySem.W.Frag) : R2 := fun x y H Q => ∃ l b xs zs, x = .ref l ∧ y = .ref b ∧ SqL K H l xs ∧ SqL K H b zs ∧ xs.length + zs.length ≤ sizeLine ∧ ∀ p, H p = none → Q (.ref p) (upd H p (.lst (xs ++ zs)))
theorem op_catR : OpR X (binaryOp .Add) (rCatR X.K) := by
  intro pins s σ H x y v u Q I rx ry h
  obtain ⟨l, b, xs, zs, rfl, rfl, hH, hB, hz, q⟩ := h
  cases rx
  cases ry
  obtain ⟨its, r, ⟨⟨cls, dd, data, sl⟩, n, ho, hc, hdd, hd⟩, _⟩ := I.list hH
  obtain ⟨its2, r2, ⟨⟨cls2, dd2, data2, sl2⟩, n2, ho2, hc2, hdd2, hd2⟩, _⟩ := I.list hB
  simp only at hc hd hc2 hd2
  subst hc hd hc2 hd2
  have hl := r.length
  have hl2 := r2.length
  refine concat_meets ⟨_, ho, rfl⟩ ⟨_, ho2, rfl⟩ noFill_list_add seq_list_add PySem.F.slot_list_add PySem.F.entry_list_add (PySem.F.args_list_add_2 _ _) (list_addW l b its.toArray its2.toArray n n2 dd dd2 sl sl2 (by rw [List.size_toArray, List.size_toArray]; omega)) ⟨ho, ho2, ?_⟩
  have ea : its.toArray ++ its2.toArray = (its ++ its2).toArray := by simp
  rw [ea]
  exact ⟨.ref _, _, I.lnew (t' := s.toks) (r.append r2) (by rw [List.length_append]; omega), rfl, q _ I.fresh⟩
/-- t + u, tuples: where one is empty it is the other one, else a new one -/
def rCatTC (K : PySem.W.Frag) : R2 := fun x y H Q => ∃ a b xs ys, x = .ref a ∧ y = .ref b ∧ SqT K H a xs ∧ SqT K H b ys ∧ xs.length + ys.length ≤ sizeLine ∧
  (xs = [] → Q (.ref b) H) ∧ (ys = [] → Q (.ref a) H) ∧ ∀ (p : Addr) (o : Obj), o.dict = none → H p = none → Q (.ref p) (upd H p (.frz o (.tup (xs ++ ys))))
theorem op_catTC : OpR X (binaryOp .Add) (rCatTC X.K) := by
  intro pins s σ H x y v u Q I rx ry h
  obtain ⟨a, b, xs, ys, rfl, rfl, ha, hb, hz, q0, q1, q2⟩ := h
  cases rx
  cases ry
  obtain ⟨its, r1, p1, _⟩ := I.tuple ha
  obtain ⟨its2, r2, p2, _⟩ := I.tuple hb
  by_cases hx : xs = []
  · subst hx
    cases r1
    exact cat_tup0 p1 p2 ⟨.ref b, H, I, rfl, q0 rfl⟩
  · refine HT.cat_tup p1 p2 (fun z => hx ?_) (fun z => ⟨.ref a, H, I, rfl, q1 ?_⟩) (fun z => ?_) ?_
    · subst z; cases r1; rfl
    · subst z; cases r2; rfl
    · have hd : ({ cls := .type "tuple", data := .seq (its ++ its2).toArray } : Obj).dict = none := rfl
      obtain ⟨ob, hob⟩ : ∃ ob : Obj, ob = { cls := .type "tuple", data := .seq (its ++ its2).toArray } := ⟨_, rfl⟩
      rw [← hob] at hd ⊢
      have hg : (s.heap.push ob).get? s.heap.objs.size = some ob := Heap.get?_push_size _ (by rw [hob]; rfl)
      exact ⟨.ref s.heap.objs.size, _, I.laid (t' := s.toks) (o := .frz ob (.tup (xs ++ ys))) (fun b ob k => Heap.get?_push_of_some _ k) (Nat.le_refl _)
        ⟨hg, by rw [List.length_append]; exact hz, _, r1.append r2, ⟨_, hg, by rw [hob], _, by rw [hob]⟩⟩, rfl, q2 _ _ hd (I.hok.fresh (Nat.le_refl _))⟩
    · rw [← r1.length, ← r2.length]; exact hz
theorem de_add {a b : Expr} {fa fb : M D} {pos : Pos} (ha : DE X W a fa) (hb : DE X W b fb) : DE X W (.BinOp a .Add b pos) (bnd fa fun d => bnd fb fun e => addM d e) :=
  de_op (opr_or op_add (opr_or op_add_str (opr_or op_catTC op_catR))) (fun W w H σ s x y d e Q R rx ry p => by
    unfold addM at p
    split at p
    · cases rx; cases ry; exact .inl ⟨_, _, rfl, rfl, Post.here p R (Rep.int _)⟩
    · cases rx; cases ry
      split at p
      · next k => exact .inr (.inl ⟨_, _, rfl, rfl, of_decide_eq_true k, Post.here p R (Rep.str _)⟩)
      · exact p.elim
    · next ds es =>
      split at p
      · next k =>
        obtain ⟨l, vs, rfl, h1, h2⟩ := R.tuple rx (ds := ds) rfl
        obtain ⟨b, us, rfl, h3, h4⟩ := R.tuple ry (ds := es) rfl
        have hk : ds.length + es.length ≤ sizeLine := of_decide_eq_true k
        refine .inr (.inr (.inl ⟨l, b, vs, us, rfl, rfl, h1, h3, by rw [RepL.length h2, RepL.length h4]; exact hk, fun z => ?_, fun z => ?_, fun q o ho hq => ?_⟩))
        · subst z
          cases h2
          exact Post.here p R ry
        · subst z
          cases h4
          rw [List.append_nil] at p
          exact Post.here p R rx
        · obtain ⟨l3, R3, r3⟩ := R.newT hq (RepL.append h2 h4) ho
          exact p _ _ _ l3 R3 r3
      · exact p.elim
    · dsimp only at p
      split at p
      · next xs ys hx hy =>
        split at p
        · next k =>
          obtain ⟨l, vs, rfl, h1, h2⟩ := R.list rx hx
          obtain ⟨b, us, rfl, h3, h4⟩ := R.list ry hy
          have hk : xs.length + ys.length ≤ sizeLine := of_decide_eq_true k
          refine .inr (.inr (.inr ⟨l, b, vs, us, rfl, rfl, h1, h3, by rw [RepL.length h2, RepL.length h4]; exact hk, fun q hq => ?_⟩))
          obtain ⟨l3, R3, r3⟩ := R.newL hq (RepL.append h2 h4)
          exact p _ _ _ l3 R3 r3
        · exact p.elim
      · exact p.elim) ha hb
theorem dn_cat {a b : Expr} {fa fb : M D} {pos : Pos} (ha : DE X W a fa) (hb : DE X W b fb) : DN X W (.BinOp a .Add b pos) (bnd fa fun d => bnd fb fun e => catN d e) := by
  obtain ⟨ta, pa, ra⟩ := ha
  obtain ⟨tb, pb, rb⟩ := hb
  refine ⟨tOp (rCatR X.K) ta tb, pe_op op_catR pa pb, fun w H σ s Q R p => ?_⟩
  refine ra.bnd R p fun d s1 w1 H1 v1 l1 R1 r1 p1 => ?_
  refine rb.bnd R1 p1 fun e s2 w2 H2 v2 l2 R2 r2 p2 => ?_
  unfold catN at p2
  split at p2
  · next xs ys hx hy =>
    split at p2
    · next k =>
      obtain ⟨l, vs, rfl, h1, h2⟩ := R2.list (Rep.up l2 r1) hx
      obtain ⟨b, us, rfl, h3, h4⟩ := R2.list r2 hy
      have hk : xs.length + ys.length ≤ sizeLine := of_decide_eq_true k
      refine ⟨l, b, vs, us, rfl, rfl, h1, h3, by rw [RepL.length h2, RepL.length h4]; exact hk, fun p hp => ?_⟩
      exact p2 w2 _ _ (Le.laid hp) (R2.laid hp) ⟨p, rfl, (R2.fresh hp).1, (R2.fresh hp).2, ⟨_, upd_same, RepL.append h2 h4⟩, hp⟩
    · exact p2.elim
  · exact p2.elim
/-! ### comparisons -/
def isNonM : D → M D
  | .non => ret (.bl true)
  | _ => ret (.bl false)
def notNonM : D → M D
  | .non => ret (.bl false)
  | _ => ret (.bl true)
theorem non_of {K : PySem.W.Frag} {w : Wd} {v : V} {d : D} (r : Rep K w v d) : decide (v = V.non) = (match d with | .non => true | _ => false) := by
  cases r <;> simp
theorem rop_isN : ROp X (fun x y H Q => y = .non ∧ Q (.bl (decide (x = .non))) H) (fun d e => match e with | .non => isNonM d | _ => fail) := by
  intro W w H σ s x y d e Q R rx ry p
  cases ry with
  | non =>
    refine ⟨rfl, ?_⟩
    rw [non_of rx]
    cases d <;> exact Post.here p R (Rep.bl _)
  | _ => exact p.elim
theorem rop_notN : ROp X (fun x y H Q => y = .non ∧ Q (.bl (!decide (x = .non))) H) (fun d e => match e with | .non => notNonM d | _ => fail) := by
  intro W w H σ s x y d e Q R rx ry p
  cases ry with
  | non =>
    refine ⟨rfl, ?_⟩
    rw [non_of rx]
    cases d <;> exact Post.here p R (Rep.bl _)
  | _ => exact p.elim
/-! what == sees -/
mutual
def pyT : D → Option PyData
  | .non => some .none
  | .bl b => some (.bool b)
  | .int i => some (.int i)
  | .str x => some (.str x)
  | .tup xs => (pyL xs).map .tuple
  | .lst xs => (pyL xs).map .list
  | _ => none
def pyL : List D → Option (List PyData)
  | [] => some []
  | x :: xs => match pyT x, pyL xs with
    | some y, some ys => some (y :: ys)
    | _, _ => none
end
def pyD (s : S) (d : D) : Option PyData := match d with
  | .cell n => match s.vh[n]? with
    | some (.lst xs) => (pyL xs).map .list
    | _ => none
  | d => pyT d
mutual
theorem dp_of {K : PySem.W.Frag} {w : Wd} {H : Hp} (sub : ∀ a o, w.F a = some o → H a = some o) : ∀ {v : V} {d : D} {q : PyData}, Rep K w v d → pyT d = some q → Dp K H v q
  | _, _, _, .non, e => by cases e; exact .non
  | _, _, _, .bl b, e => by cases e; exact .bl b
  | _, _, _, .int i, e => by cases e; exact .int i
  | _, _, _, .str x, e => by cases e; exact .str x
  | _, _, _, .ref a, e => by cases e
  | _, _, _, .pr _ _ _, e => by cases e
  | _, _, _, .emp _, e => by cases e
  | _, _, _, .cell h, e => by cases e
  | _, _, _, .tup (ds := ds) h t, e => by
    unfold pyT at e
    cases q : pyL ds with
    | none => rw [q] at e; cases e
    | some qs => rw [q] at e; cases e; exact .tup (sqT_up sub h.sq) (dpL_of sub t q)
  | _, _, _, .lst (ds := ds) h t, e => by
    unfold pyT at e
    cases q : pyL ds with
    | none => rw [q] at e; cases e
    | some qs => rw [q] at e; cases e; exact .lst (sqL_up sub h) (dpL_of sub t q)
theorem dpL_of {K : PySem.W.Frag} {w : Wd} {H : Hp} (sub : ∀ a o, w.F a = some o → H a = some o) : ∀ {vs : List V} {ds : List D} {qs : List PyData}, RepL K w vs ds → pyL ds = some qs → DpAll K H vs qs
  | _, _, _, .nil, e => by cases e; exact .nil
  | _, _, _, .cons (d := d) (ds := ds) h t, e => by
    unfold pyL at e
    cases h1 : pyT d with
    | none => rw [h1] at e; cases e
    | some y =>
      cases h2 : pyL ds with
      | none => rw [h1, h2] at e; cases e
      | some ys => rw [h1, h2] at e; cases e; exact .cons (dp_of sub h h1) (dpL_of sub t h2)
end
theorem RS.py {K : PySem.W.Frag} {w : Wd} {H : Hp} {σ : L2.St} {s : S} {v : V} {d : D} {q : PyData} (R : RS K w H σ s) (r : Rep K w v d) (h : pyD s d = some q) : Dp K H v q := by
  cases r with
  | @cell a n h1 =>
    obtain ⟨c, e, hc⟩ := R.cellOf h1
    unfold pyD at h
    simp only [e] at h
    cases c with
    | dct _ => simp at h
    | obj _ _ => simp at h
    | dctL _ _ _ => simp at h
    | dctN _ _ => simp at h
    | lst ds =>
      dsimp only at h
      cases h2 : pyL ds with
      | none => rw [h2] at h; cases h
      | some ys =>
        rw [h2] at h; cases h
        obtain ⟨vs, h3, h4⟩ := hc
        exact .lst (SqL.of h3) (dpL_of R.sub h4 h2)
  | non => exact dp_of R.sub .non h
  | bl b => exact dp_of R.sub (.bl b) h
  | int i => exact dp_of R.sub (.int i) h
  | str x => exact dp_of R.sub (.str x) h
  | ref a => exact dp_of R.sub (.ref a) h
  | pr _ _ _ => cases h
  | emp _ => cases h
  | tup h1 t => exact dp_of R.sub (.tup h1 t) h
  | lst h1 t => exact dp_of R.sub (.lst h1 t) h
def eqD (d e : D) : M D := fun s => match pyD s d, pyD s e with
  | some p, some q => if (SeqAt.shaped p && SeqAt.shaped q) = true then .ok (.bl (PyData.eqv p q)) s else .bad
  | _, _ => .bad
def neD (d e : D) : M D := fun s => match pyD s d, pyD s e with
  | some p, some q => if (SeqAt.shaped p && SeqAt.shaped q) = true then .ok (.bl (!PyData.eqv p q)) s else .bad
  | _, _ => .bad
def eqM : D → D → M D
  | .str a, .str b => ret (.bl (decide (a = b)))
  | d, e => eqD d e
def neM : D → D → M D
  | .str a, .str b => ret (.bl (!decide (a = b)))
  | d, e => neD d e
theorem rop_eqD : ROp X (rEqD X.K) eqD := by
  intro W w H σ s x y d e Q R rx ry p
  unfold eqD at p
  split at p
  · next p1 q1 h1 h2 =>
    split at p
    · next k =>
      rw [Bool.and_eq_true] at k
      exact ⟨p1, q1, R.py rx h1, R.py ry h2, k.1, k.2, Post.here p R (Rep.bl _)⟩
    · exact p.elim
  · exact p.elim
theorem rop_neD : ROp X (rNeD X.K) neD := by
  intro W w H σ s x y d e Q R rx ry p
  unfold neD at p
  split at p
  · next p1 q1 h1 h2 =>
    split at p
    · next k =>
      rw [Bool.and_eq_true] at k
      exact ⟨p1, q1, R.py rx h1, R.py ry h2, k.1, k.2, Post.here p R (Rep.bl _)⟩
    · exact p.elim
  · exact p.elim
theorem rop_eq : ROp X (fun x y H Q => rEq x y H Q ∨ rEqD X.K x y H Q) eqM := by
  intro W w H σ s x y d e Q R rx ry p
  unfold eqM at p
  split at p
  · next a b =>
    cases rx; cases ry
    refine .inl ⟨rfl, ?_⟩
    have e : decide (V.str a = V.str b) = decide (a = b) := by
      by_cases h : a = b
      · subst h; simp
      · rw [decide_eq_false h]
        exact decide_eq_false fun z => h (V.str.inj z)
    rw [e]
    exact Post.here p R (Rep.bl _)
  · exact .inr (rop_eqD W w H σ s x y d e Q R rx ry p)
theorem rop_ne : ROp X (fun x y H Q => rNe x y H Q ∨ rNeD X.K x y H Q) neM := by
  intro W w H σ s x y d e Q R rx ry p
  unfold neM at p
  split at p
  · next a b =>
    cases rx; cases ry
    refine .inl ⟨rfl, ?_⟩
    have e : decide (V.str a = V.str b) = decide (a = b) := by
      by_cases h : a = b
      · subst h; simp
      · rw [decide_eq_false h]
        exact decide_eq_false fun z => h (V.str.inj z)
    rw [e]
    exact Post.here p R (Rep.bl _)
  · exact .inr (rop_neD W w H σ s x y d e Q R rx ry p)
theorem op_eqA (hu : X.A.units + 64 < cLine) : OpR X (compareOp .Eq) (fun x y H Q => rEq x y H Q ∨ rEqD X.K x y H Q) := opr_or op_eq (op_eqD hu)
theorem op_neA (hu : X.A.units + 64 < cLine) : OpR X (compareOp .NotEq) (fun x y H Q => rNe x y H Q ∨ rNeD X.K x y H Q) := opr_or op_ne (op_neD hu)
theorem units_of {A : Around} {k : Nat} (hr : Room k A) : A.units + 64 < cLine := by have := hr.un; omega
def ltM : D → D → M D
  | .int i, .int j => ret (.bl (decide (i < j)))
  | .str a, .str b => ret (.bl (decide (a.cps.toList < b.cps.toList)))
  | _, _ => fail
theorem rop_lt : ROp X (fun x y H Q => rI0 (fun i j => .bl (decide (i < j))) x y H Q ∨ ∃ i j, x = .str i ∧ y = .str j ∧ Q (.bl (decide (i.cps.toList < j.cps.toList))) H) ltM := by
  intro W w H σ s x y d e Q R rx ry p
  unfold ltM at p
  split at p
  · cases rx; cases ry; exact .inl ⟨_, _, rfl, rfl, Post.here p R (Rep.bl _)⟩
  · cases rx; cases ry; exact .inr ⟨_, _, rfl, rfl, Post.here p R (Rep.bl _)⟩
  · exact p.elim
def leM : D → D → M D := i2 fun i j => .bl (decide (i ≤ j))
def gtM : D → D → M D := i2 fun i j => .bl (decide (j < i))
def geM : D → D → M D := i2 fun i j => .bl (decide (j ≤ i))
theorem rop_le : ROp X (rI0 fun i j => .bl (decide (i ≤ j))) leM := rop_i2 fun _ _ _ => .bl _
theorem rop_gt : ROp X (rI0 fun i j => .bl (decide (j < i))) gtM := rop_i2 fun _ _ _ => .bl _
theorem rop_ge : ROp X (rI0 fun i j => .bl (decide (j ≤ i))) geM := rop_i2 fun _ _ _ => .bl _
end Fx

namespace Fx
open PySem PySem.Spec PyProof.Rows L2
variable {X : Cx} {W : WX}
abbrev bin (op : D → D → M D) (a b : M D) : M D := bnd a fun d => bnd b fun e => op d e
abbrev tst (a : M D) : M Bool := bnd a asB
/-! ### a[i] -/
def ixM : D → D → M D := fun d e s => match e with
  | .int i => match d with
    | .str x => if lenOk x.length = true then (match atI x.cps.toList i with
      | some c => .ok (.str ⟨#[c]⟩) s
      | none => .bad) else .bad
    | .tup ds => match atI ds i with
      | some y => .ok y s
      | none => .bad
    | d => match lstOf s d with
      | some ds => match atI ds i with
        | some y => .ok y s
        | none => .bad
      | none => .bad
  | _ => .bad
theorem RepL.at {K : PySem.W.Frag} {w : Wd} {vs : List V} {ds : List D} {i : Int} {d : D} (r : RepL K w vs ds) (h : atI ds i = some d) : ∃ v, atI vs i = some v ∧ Rep K w v d := by
  unfold atI at h ⊢
  rw [RepL.length r]
  cases e : ixN ds.length i with
  | none => rw [e] at h; cases h
  | some j =>
    rw [e] at h
    exact RepL.get r h
theorem rop_ix : ROp X (rIx X.K) ixM := by
  intro W w H σ s x y d e Q R rx ry p
  unfold ixM at p
  split at p
  · next i =>
    cases ry
    split at p
    · next z =>
      cases rx
      split at p
      · next k =>
        split at p
        · next c hc => exact .inr (.inr ⟨z, i, c, rfl, rfl, of_decide_eq_true k, hc, Post.here p R (Rep.str _)⟩)
        · exact p.elim
      · exact p.elim
    · next ds =>
      split at p
      · next y hy =>
        obtain ⟨a, us, rfl, h1, h2⟩ := R.tuple rx (ds := ds) rfl
        obtain ⟨v, hv, rv⟩ := RepL.at h2 hy
        exact .inr (.inl ⟨a, us, i, v, rfl, rfl, h1, hv, Post.here p R rv⟩)
      · exact p.elim
    · split at p
      · next ds hd =>
        split at p
        · next y hy =>
          obtain ⟨a, us, rfl, h1, h2⟩ := R.list rx hd
          obtain ⟨v, hv, rv⟩ := RepL.at h2 hy
          exact .inl ⟨a, us, i, v, rfl, rfl, h1, hv, Post.here p R rv⟩
        · exact p.elim
      · exact p.elim
  · exact p.elim
theorem de_ix {a b : Expr} {fa fb : M D} {pos : Pos} (ha : DE X W a fa) (hb : DE X W b fb) (hs : PlainIx b := by exact fun _ _ => rfl) : DE X W (.Subscript a b pos) (bin ixM fa fb) := by
  obtain ⟨ta, pa, ra⟩ := ha
  obtain ⟨tb, pb, rb⟩ := hb
  refine ⟨_, pe_ix ix_seq pa pb hs, fun w H σ s Q R p => ?_⟩
  refine ra.bnd R p fun d s1 w1 H1 v1 l1 R1 r1 p1 => ?_
  refine rb.bnd R1 p1 fun e s2 w2 H2 v2 l2 R2 r2 p2 => ?_
  exact rop_ix W w2 H2 σ s2 v1 v2 d e Q R2 (Rep.up l2 r1) r2 p2
/-! ### slices -/
def DO (X : Cx) (W : WX) (e : Option Expr) (f : M (Option Int)) : Prop := ∃ t, PO X e t ∧ Fol X.K W (⟨fun _ _ _ a b => a = b, fun _ _ _ _ _ _ _ _ _ _ h => h⟩ : Pr (Option Int) (Option Int)) t f
def partM (f : M D) : M (Option Int) := bnd f fun d => match d with
  | .int i => ret (some i)
  | _ => fail
theorem do_none : DO X W none (ret none) := ⟨_, po_none, fun w H σ s Q R p => Post.here p R rfl⟩
theorem do_some {e : Expr} {f : M D} (h : DE X W e f) : DO X W (some e) (partM f) := by
  obtain ⟨t, p, r⟩ := h
  refine ⟨_, po_some p, fun w H σ s Q R z => ?_⟩
  refine r.bnd R z fun d s1 w1 H1 v l1 R1 r1 p1 => ?_
  cases r1 with
  | int i => exact ⟨i, rfl, Post.here p1 R1 rfl⟩
  | _ => exact p1.elim
def cutD (xs : List D) (lo hi : Option Int) : List D := (xs.drop (HT.sIx xs.length 0 lo)).take (HT.sIx xs.length xs.length hi - HT.sIx xs.length 0 lo)
theorem RepL.cut {K : PySem.W.Frag} {w : Wd} {vs : List V} {ds : List D} (r : RepL K w vs ds) (lo hi : Option Int) : RepL K w (cutV vs lo hi) (cutD ds lo hi) := by
  unfold cutV cutD
  rw [RepL.length r]
  exact (r.drop _).take _
/-- of a text -/
def slS (f : M D) (lo hi : M (Option Int)) : M D := bnd f fun d => bnd lo fun l => bnd hi fun u => match d with
  | .str x => if lenOk x.length = true then ret (.str (cutS x l u)) else fail
  | _ => fail
/-- of a list -/
def slL (f : M D) (lo hi : M (Option Int)) : M Cell := bnd f fun d => bnd lo fun l => bnd hi fun u => fun s => match lstOf s d with
  | some ds => .ok (.lst (cutD ds l u)) s
  | none => .bad
section
variable {e : Expr} {lo hi : Option Expr} {f : M D} {fl fh : M (Option Int)} {pos p2 : Pos}
theorem de_slS (h : DE X W e f) (hl : DO X W lo fl) (hh : DO X W hi fh) : DE X W (.Subscript e (.Slice lo hi none p2) pos) (slS f fl fh) := by
  obtain ⟨t, p, r⟩ := h
  obtain ⟨tl, pl, rl⟩ := hl
  obtain ⟨th, ph, rh⟩ := hh
  refine ⟨_, pe_slice sl_str p pl ph, fun w H σ s Q R z => ?_⟩
  refine r.bnd R z fun d s1 w1 H1 v1 l1 R1 r1 p1 => ?_
  refine rl.bnd R1 p1 fun a s2 w2 H2 v2 l2 R2 r2 p2 => ?_
  refine rh.bnd R2 p2 fun b s3 w3 H3 v3 l3 R3 r3 p3 => ?_
  cases r2; cases r3
  cases r1 with
  | str x =>
    dsimp only at p3
    split at p3
    · next k => exact ⟨x, rfl, of_decide_eq_true k, Post.here p3 R3 (Rep.str _)⟩
    · exact p3.elim
  | _ => exact p3.elim
theorem dn_slL (h : DE X W e f) (hl : DO X W lo fl) (hh : DO X W hi fh) : DN X W (.Subscript e (.Slice lo hi none p2) pos) (slL f fl fh) := by
  obtain ⟨t, p, r⟩ := h
  obtain ⟨tl, pl, rl⟩ := hl
  obtain ⟨th, ph, rh⟩ := hh
  refine ⟨_, pe_slice sl_list p pl ph, fun w H σ s Q R z => ?_⟩
  refine r.bnd R z fun d s1 w1 H1 v1 l1 R1 r1 p1 => ?_
  refine rl.bnd R1 p1 fun a s2 w2 H2 v2 l2 R2 r2 p2 => ?_
  refine rh.bnd R2 p2 fun b s3 w3 H3 v3 l3 R3 r3 p3 => ?_
  cases r2; cases r3
  split at p3
  · next ds hd =>
    obtain ⟨a', vs, rfl, h1, h2⟩ := R3.list (Rep.up l3 (Rep.up l2 r1)) hd
    refine ⟨a', vs, rfl, h1, fun q hq => ?_⟩
    exact p3 w3 _ _ (Le.laid hq) (R3.laid hq) ⟨q, rfl, (R3.fresh hq).1, (R3.fresh hq).2, ⟨_, upd_same, h2.cut a b⟩, hq⟩
  · exact p3.elim
end
/-! ### list(..), tuple(..), ord, str of an int, abs, min, max of two -/
def listN : List D → M Cell
  | [d] => fun s => match d with
    | .tup ds => .ok (.lst ds) s
    | d => match lstOf s d with
      | some ds => .ok (.lst ds) s
      | none => .bad
  | _ => fun _ => .bad
theorem rc_list : RCalN X (fun xs H Q => ∃ p ys, xs = [.ref p] ∧ (SqL X.K H p ys ∨ SqT X.K H p ys) ∧ ∀ l, H l = none → Q (.ref l) (upd H l (.lst ys))) listN := by
  intro W w H σ s vs ds Q R r p
  unfold listN at p
  split at p
  · next d =>
    obtain ⟨v, rfl, rv⟩ := one_of r
    split at p
    · next es =>
      obtain ⟨a, us, rfl, h1, h2⟩ := R.tuple rv (ds := es) rfl
      exact ⟨a, us, rfl, .inr h1, fun q hq => p w _ _ (Le.laid hq) (R.laid hq) ⟨q, rfl, (R.fresh hq).1, (R.fresh hq).2, ⟨_, upd_same, h2⟩, hq⟩⟩
    · split at p
      · next es he =>
        obtain ⟨a, us, rfl, h1, h2⟩ := R.list rv he
        exact ⟨a, us, rfl, .inl h1, fun q hq => p w _ _ (Le.laid hq) (R.laid hq) ⟨q, rfl, (R.fresh hq).1, (R.fresh hq).2, ⟨_, upd_same, h2⟩, hq⟩⟩
      · exact p.elim
  · exact p.elim
def tupleM : List D → M D
  | [d] => fun s => match d with
    | .tup ds => .ok (.tup ds) s
    | d => match lstOf s d with
      | some ds => .ok (.tup ds) s
      | none => .bad
  | _ => fun _ => .bad
def rTupC (K : PySem.W.Frag) (xs : List V) (H : Hp) (Q : VK) : Prop := ∃ p ys, xs = [.ref p] ∧ ((SqL K H p ys ∧ ∀ (l : Addr) (o : Obj), o.dict = none → H l = none → Q (.ref l) (upd H l (.frz o (.tup ys)))) ∨ (SqT K H p ys ∧ Q (.ref p) H))
/-- tuple(xs), the new object known -/
theorem call_tupleC : CallR X (.type "tuple") (rTupC X.K) := by
  intro pins s σ H xs us Q I r h
  obtain ⟨p, ys, e, h⟩ := h
  subst e
  obtain ⟨u, e, ru⟩ := vals1 r
  subst e
  cases ru
  rcases h with ⟨hs, q⟩ | ⟨hs, q⟩
  · obtain ⟨its, rv, pl, hz⟩ := I.list hs
    refine call_tuple_list pl.isList (fun h' k => ?_) (by rw [List.size_toArray, ← rv.length]; exact hz)
    have J : Inv X pins σ H { s with heap := h' } := I.kept (t' := s.toks) k
    have hg : (h'.push { cls := .type "tuple", data := .seq its.toArray }).get? h'.objs.size = some { cls := .type "tuple", data := .seq its.toArray } := Heap.get?_push_size _ rfl
    refine ⟨.ref h'.objs.size, _, ?_, rfl, q _ { cls := .type "tuple", data := .seq its.toArray } rfl (J.hok.fresh (Nat.le_refl _))⟩
    exact J.laid (t' := s.toks) (fun b o e => Heap.get?_push_of_some _ e) (Nat.le_refl _) ⟨hg, hz, its, rv, ⟨_, hg, rfl, _, rfl⟩⟩
  · obtain ⟨its, rv, pl, hz⟩ := I.tuple hs
    exact call_tuple_tup pl ⟨.ref p, H, I, rfl, q⟩
theorem rc_tuple : RCal X (rTupC X.K) tupleM := by
  intro W w H σ s vs ds Q R r p
  unfold tupleM at p
  split at p
  · next d =>
    obtain ⟨v, rfl, rv⟩ := one_of r
    split at p
    · next es =>
      obtain ⟨a, us, rfl, h1, h2⟩ := R.tuple rv (ds := es) rfl
      exact ⟨a, us, rfl, .inr ⟨h1, Post.here p R rv⟩⟩
    · split at p
      · next es he =>
        obtain ⟨a, us, rfl, h1, h2⟩ := R.list rv he
        refine ⟨a, us, rfl, .inl ⟨h1, fun q o ho hq => ?_⟩⟩
        obtain ⟨l3, R3, r3⟩ := R.newT hq h2 ho
        exact p _ _ _ l3 R3 r3
      · exact p.elim
  · exact p.elim
def ordM : List D → M D
  | [.str x] => if x.length = 1 then ret (.int (x.cps.getD 0 0 : Nat)) else fail
  | _ => fail
theorem rc_ord : RCal X (fun xs H Q => ∃ x, xs = [.str x] ∧ x.length = 1 ∧ Q (.int (x.cps.getD 0 0 : Nat)) H) ordM := by
  intro W w H σ s vs ds Q R r p
  unfold ordM at p
  split at p
  · next x =>
    obtain ⟨v, rfl, rv⟩ := one_of r
    cases rv
    split at p
    · next k => exact ⟨x, rfl, k, Post.here p R (Rep.int _)⟩
    · exact p.elim
  · exact p.elim
def strM : List D → M D
  | [.int i] => if i.natAbs.log2 < 1920 then ret (.str (toString i)) else fail
  | _ => fail
theorem rc_str : RCal X (fun xs H Q => ∃ i, xs = [.int i] ∧ i.natAbs.log2 < 1920 ∧ Q (.str (toString i)) H) strM := by
  intro W w H σ s vs ds Q R r p
  unfold strM at p
  split at p
  · next x =>
    obtain ⟨v, rfl, rv⟩ := one_of r
    cases rv
    split at p
    · next k => exact ⟨x, rfl, k, Post.here p R (Rep.str _)⟩
    · exact p.elim
  · exact p.elim
def absM : List D → M D
  | [.int i] => ret (.int (if i < 0 then -i else i))
  | _ => fail
theorem rc_abs : RCal X (fun xs H Q => ∃ i, xs = [.int i] ∧ Q (.int (if i < 0 then -i else i)) H) absM := by
  intro W w H σ s vs ds Q R r p
  unfold absM at p
  split at p
  · obtain ⟨v, rfl, rv⟩ := one_of r
    cases rv
    exact ⟨_, rfl, Post.here p R (Rep.int _)⟩
  · exact p.elim
def max2M : List D → M D
  | [.int i, .int j] => ret (.int (if j > i then j else i))
  | _ => fail
def min2M : List D → M D
  | [.int i, .int j] => ret (.int (if j < i then j else i))
  | _ => fail
theorem rc_max2 : RCal X (fun xs H Q => ∃ i j, xs = [.int i, .int j] ∧ Q (.int (if j > i then j else i)) H) max2M := by
  intro W w H σ s vs ds Q R r p
  unfold max2M at p
  split at p
  · obtain ⟨v, u, rfl, rv, ru⟩ := two_of r
    cases rv; cases ru
    exact ⟨_, _, rfl, Post.here p R (Rep.int _)⟩
  · exact p.elim
theorem rc_min2 : RCal X (fun xs H Q => ∃ i j, xs = [.int i, .int j] ∧ Q (.int (if j < i then j else i)) H) min2M := by
  intro W w H σ s vs ds Q R r p
  unfold min2M at p
  split at p
  · obtain ⟨v, u, rfl, rv, ru⟩ := two_of r
    cases rv; cases ru
    exact ⟨_, _, rfl, Post.here p R (Rep.int _)⟩
  · exact p.elim
def negM : D → M D
  | .int i => ret (.int (-i))
  | _ => fail
theorem de_neg {e : Expr} {f : M D} {pos : Pos} (h : DE X W e f) : DE X W (.UnaryOp .USub e pos) (bnd f negM) := by
  obtain ⟨t, p, r⟩ := h
  refine ⟨_, pe_un un_neg p, fun w H σ s Q R z => ?_⟩
  refine r.bnd R z fun d s1 w1 H1 v l1 R1 r1 p1 => ?_
  cases r1 with
  | int i => exact ⟨i, rfl, Post.here p1 R1 (Rep.int _)⟩
  | _ => exact p1.elim
/-! ### methods of lists and texts -/
def isTy (T : String) (s : S) (d : D) : Bool := match d with
  | .str _ => T == "str"
  | d => (T == "list" && (lstOf s d).isSome) || (T == "dict" && (dctOf s d).isSome)
theorem tyV_of {K : PySem.W.Frag} {w : Wd} {H : Hp} {σ : L2.St} {s : S} {v : V} {d : D} {T : String} (R : RS K w H σ s) (r : Rep K w v d) (h : isTy T s d = true) : tyV K T v H := by
  unfold isTy at h
  split at h
  · cases r
    show T = "str"
    simpa using h
  · rw [Bool.or_eq_true, Bool.and_eq_true, Bool.and_eq_true] at h
    rcases h with ⟨h1, h2⟩ | ⟨h1, h2⟩
    · obtain ⟨ds, hd⟩ := Option.isSome_iff_exists.mp h2
      obtain ⟨a, vs, rfl, h3, _⟩ := R.list r hd
      exact .inl ⟨by simpa using h1, vs, h3⟩
    · obtain ⟨ds, hd⟩ := Option.isSome_iff_exists.mp h2
      obtain ⟨a, vs, rfl, h3, _⟩ := R.dict r hd
      exact .inr (.inr (.inl ⟨by simpa using h1, .inl ⟨vs, h3⟩⟩))
def methM (T : String) (f : M D) (fs : M (List D)) (g : D → List D → M D) : M D := bnd f fun d s => if isTy T s d = true then bnd fs (fun ds => g d ds) s else .bad
def meth0M (T : String) (f : M D) (g : D → M D) : M D := bnd f fun d s => if isTy T s d = true then g d s else .bad
def RMt (X : Cx) (r : V → List V → Hp → VK → Prop) (g : D → List D → M D) : Prop := ∀ (W : WX) w H σ s v vs d ds Q, RS X.K w H σ s → Rep X.K w v d → RepL X.K w vs ds → Post X.K W (pD X.K) w H σ (g d ds s) Q → r v vs H Q
theorem de_meth {o e : Expr} {es : List Expr} {f : M D} {fs : M (List D)} {g : D → List D → M D} {name : Str} {ap pos : Pos} {T id : String} {r : V → List V → Hp → VK → Prop} (hr : RMt X r g) (pa : PlainAttrs T) (slot : Slot T name id) (hty : typeOf (.builtin id) = pure (.type "method_descriptor")) (hm : MtR X id r)
    (ho : DE X W o f) (ha : DA X W (e :: es) fs) (hbase : attributeBase o name X.env (eval o X.env) = eval o X.env := by rfl)
    (hfew : ((backTo pos (starEach (e :: es) X.env)).all (fun x => !x.1) && (backToKw pos (keywordEach [] X.env)).all (fun x => x.1.isSome)
      && decide ((e :: es).length + ([] : List Keyword).length + (if ([] : List Keyword).isEmpty then 0 else 1) < 30)) = true := by rfl)
    (hline : (ap.endLine == pos.line) = true := by rfl) (hs : starEach (e :: es) X.env = (false, eval e X.env) :: starEach es X.env := by rfl) (hplain : (backTo pos (starEach es X.env)).any (·.1) = false := by rfl) :
    DE X W (.Call (.Attribute o name ap) (e :: es) [] pos) (methM T f fs g) := by
  obtain ⟨to, po, ro⟩ := ho
  obtain ⟨ta, qa, ra⟩ := ha
  refine ⟨_, pe_bm pa slot hty hm po qa hbase hfew hline hs hplain, fun w H σ s Q R z => ?_⟩
  refine ro.bnd R z fun d s1 w1 H1 v l1 R1 r1 p1 => ?_
  split at p1
  · next k =>
    refine ⟨tyV_of R1 r1 k, ?_⟩
    refine ra.bnd R1 p1 fun ds s2 w2 H2 vs l2 R2 r2 p2 => ?_
    exact hr W w2 H2 σ s2 v vs d ds Q R2 (Rep.up l2 r1) r2 p2
  · exact p1.elim
theorem de_meth0 {o : Expr} {f : M D} {g : D → M D} {name : Str} {ap pos : Pos} {T id : String} {r : V → List V → Hp → VK → Prop} (hr : RMt X r fun d _ => g d) (pa : PlainAttrs T) (slot : Slot T name id) (hty : typeOf (.builtin id) = pure (.type "method_descriptor")) (hm : MtR X id r)
    (ho : DE X W o f) (hbase : attributeBase o name X.env (eval o X.env) = eval o X.env := by rfl) (hline : (ap.endLine == pos.line) = true := by rfl) :
    DE X W (.Call (.Attribute o name ap) [] [] pos) (meth0M T f g) := by
  obtain ⟨to, po, ro⟩ := ho
  refine ⟨_, pe_bm0 pa slot hty hm po hbase hline, fun w H σ s Q R z => ?_⟩
  refine ro.bnd R z fun d s1 w1 H1 v l1 R1 r1 p1 => ?_
  split at p1
  · next k => exact ⟨tyV_of R1 r1 k, hr W w1 H1 σ s1 v [] d [] Q R1 r1 .nil p1⟩
  · exact p1.elim
/-- a list that stands by itself is written -/
def wrM (d : D) (g : List D → M (List D × D)) : M D := fun s => match d with
  | .cell n => match s.vh[n]? with
    | some (.lst ds) => match g ds s with
      | .ok (es, y) s' => .ok y { s' with vh := s'.vh.set n (.lst es) }
      | _ => .bad
    | _ => .bad
  | _ => .bad
def appM (d : D) : List D → M D
  | [e] => wrM d fun ds s => if ds.length < sizeLine then .ok (ds ++ [e], .non) s else .bad
  | _ => fail
theorem RS.wr {K : PySem.W.Frag} {w : Wd} {H : Hp} {σ : L2.St} {s : S} {v : V} {d : D} {g : List D → M (List D × D)} {Q : V → Hp → Prop} (R : RS K w H σ s) (r : Rep K w v d) (p : Post K W (pD K) w H σ (wrM d g s) Q) :
    ∃ (a : Addr) (vs : List V) (ds es : List D) (y : D) (s' : S), v = .ref a ∧ H a = some (.lst vs) ∧ RepL K w vs ds ∧ g ds s = .ok (es, y) s' ∧ (s' = s → ∀ us u, RepL K w us es → Rep K w u y → Q u (upd H a (.lst us))) := by
  unfold wrM at p
  cases r with
  | @cell a n h1 =>
    obtain ⟨c, e, hc⟩ := R.cellOf h1
    dsimp only at p
    rw [e] at p
    cases c with
    | dct _ => exact p.elim
    | obj _ _ => exact p.elim
    | dctL _ _ _ => exact p.elim
    | dctN _ _ => exact p.elim
    | lst ds =>
      obtain ⟨vs, h2, h3⟩ := hc
      dsimp only at p
      cases hg : g ds s with
      | exc _ _ => rw [hg] at p; exact p.elim
      | bad => rw [hg] at p; exact p.elim
      | ok q s' =>
        rw [hg] at p
        obtain ⟨es, y⟩ := q
        refine ⟨a, vs, ds, es, y, s', rfl, h2, h3, hg, fun e us u r1 r2 => ?_⟩
        subst e
        exact p w _ u (Le.write (List.mem_of_getElem? h1)) (R.setCell h1 ⟨us, upd_same, r1⟩) r2
  | _ => exact p.elim
theorem rm_append : RMt X rAppend appM := by
  intro W w H σ s v vs d ds Q R r rs p
  unfold appM at p
  split at p
  · next e =>
    obtain ⟨u, rfl, ru⟩ := one_of rs
    obtain ⟨a, us, ds, es, y, s', rfl, h1, h2, h3, h4⟩ := R.wr r p
    split at h3
    · next k =>
      cases h3
      exact ⟨a, us, u, rfl, rfl, h1, by rw [RepL.length h2]; exact k, h4 rfl _ _ (RepL.append h2 (.cons ru .nil)) Rep.non⟩
    · cases h3
  · exact p.elim
theorem de_append {o e : Expr} {f : M D} {fs : M (List D)} {ap pos : Pos} (ho : DE X W o f) (ha : DA X W [e] fs) (hbase : attributeBase o "append" X.env (eval o X.env) = eval o X.env := by rfl)
    (hfew : ((backTo pos (starEach [e] X.env)).all (fun x => !x.1) && (backToKw pos (keywordEach [] X.env)).all (fun x => x.1.isSome)
      && decide (([e] : List Expr).length + ([] : List Keyword).length + (if ([] : List Keyword).isEmpty then 0 else 1) < 30)) = true := by rfl)
    (hline : (ap.endLine == pos.line) = true := by rfl) (hs : starEach [e] X.env = (false, eval e X.env) :: starEach [] X.env := by rfl) (hplain : (backTo pos (starEach [] X.env)).any (·.1) = false := by rfl) :
    DE X W (.Call (.Attribute o "append" ap) [e] [] pos) (methM "list" f fs appM) :=
  de_meth rm_append PySem.F.plainAttrs_list PySem.F.slot_list_append PySem.F.type_list_append mt_append ho ha hbase hfew hline hs hplain
/-! sep.join(list of texts) -/
def strsOf : List D → Option (List Str)
  | [] => some []
  | .str x :: r => (strsOf r).map (x :: ·)
  | _ => none
def joinOk (a : Str) (ys : List Str) : Bool := decide ((ys.map (·.length)).sum + ys.length * a.length ≤ 16777216)
def seqOf (s : S) : D → Option (List D)
  | .tup ds => some ds
  | d => lstOf s d
def joinM (d : D) : List D → M D
  | [e] => fun s => match d with
    | .str a => match seqOf s e with
      | some ds => match strsOf ds with
        | some ys => if joinOk a ys = true then .ok (.str (Txt.join a ys)) s else .bad
        | none => .bad
      | none => .bad
    | _ => .bad
  | _ => fail
theorem strs_rep {K : PySem.W.Frag} {w : Wd} : ∀ {vs : List V} {ds : List D} {ys : List Str}, RepL K w vs ds → strsOf ds = some ys → vs = ys.map V.str
  | _, _, ys, .nil, h => by cases h; rfl
  | _, _, ys, .cons (d := d) (ds := ds) r t, h => by
    cases r with
    | str x =>
      unfold strsOf at h
      cases e : strsOf ds with
      | none => rw [e] at h; cases h
      | some zs => rw [e] at h; cases h; rw [strs_rep t e]; rfl
    | _ => cases h
theorem rm_join : RMt X (fun x xs H Q => ∃ a p, ∃ ys : List Str, x = .str a ∧ xs = [.ref p] ∧ (SqL X.K H p (ys.map V.str) ∨ SqT X.K H p (ys.map V.str)) ∧
    (ys.map (·.length)).sum + ys.length * a.length ≤ 16777216 ∧ Q (.str (Txt.join a ys)) H) joinM := by
  intro W w H σ s v vs d ds Q R r rs p
  unfold joinM at p
  split at p
  · next e =>
    obtain ⟨u, rfl, ru⟩ := one_of rs
    split at p
    · next a =>
      cases r
      split at p
      · next es he =>
        split at p
        · next ys hy =>
          split at p
          · next k =>
            have hk : (ys.map (·.length)).sum + ys.length * a.length ≤ 16777216 := of_decide_eq_true k
            unfold seqOf at he
            split at he
            · next ts =>
              cases he
              obtain ⟨q, us, rfl, h1, h2⟩ := R.tuple ru (ds := es) rfl
              rw [strs_rep h2 hy] at h1
              exact ⟨a, q, ys, rfl, rfl, .inr h1, hk, Post.here p R (Rep.str _)⟩
            · obtain ⟨q, us, rfl, h1, h2⟩ := R.list ru he
              rw [strs_rep h2 hy] at h1
              exact ⟨a, q, ys, rfl, rfl, .inl h1, hk, Post.here p R (Rep.str _)⟩
          · exact p.elim
        · exact p.elim
      · exact p.elim
    · exact p.elim
  · exact p.elim
def jnM (f g : M D) : M D := bnd f fun d s => match d with
  | .str a => bnd g (fun e => joinM (.str a) [e]) s
  | _ => .bad
theorem de_join {o e : Expr} {f g : M D} {ap pos : Pos} (ho : DE X W o f) (he : DE X W e g) (hs : starEach [e] X.env = [(false, eval e X.env)] := by rfl) (hbase : attributeBase o "join" X.env (eval o X.env) = eval o X.env := by rfl) (hline : (ap.endLine == pos.line) = true := by rfl) :
    DE X W (.Call (.Attribute o "join" ap) [e] [] pos) (jnM f g) := by
  obtain ⟨to, po, ro⟩ := ho
  obtain ⟨te, pe, re⟩ := he
  refine ⟨_, pe_join po pe hs hbase hline, fun w H σ s Q R z => ?_⟩
  refine ro.bnd R z fun d s1 w1 H1 v l1 R1 r1 p1 => ?_
  cases r1 with
  | str a =>
    have p1 : Post X.K W (pD X.K) w1 H1 σ (bnd g (fun e => joinM (.str a) [e]) s1) Q := p1
    refine ⟨⟨a, rfl⟩, ?_⟩
    refine re.bnd R1 p1 fun e s2 w2 H2 u l2 R2 r2 p2 => ?_
    exact rm_join W w2 H2 σ s2 _ [u] (.str a) [e] Q R2 (.str a) (.cons r2 .nil) p2
  | _ => exact p1.elim
/-! ### for the printed texts -/
def isM : D → D → M D := fun d e => match e with | .non => isNonM d | _ => fail
def isnotM : D → D → M D := fun d e => match e with | .non => notNonM d | _ => fail
theorem rop_is : ROp X (fun x y H Q => y = .non ∧ Q (.bl (decide (x = .non))) H) isM := rop_isN
theorem rop_isnot : ROp X (fun x y H Q => y = .non ∧ Q (.bl (!decide (x = .non))) H) isnotM := rop_notN
theorem de_gI' {x : Str} {i : Int} {pos : Pos} (hm : ∃ t, X.mg x = some (.int i t)) (hg : Gl X x := by rfl) (hd : (x == ("__debug__" : Str)) = false := by decide) : DE X W (.Name x pos) (ret (.int i)) := let ⟨_, h⟩ := hm; de_gI hg h hd
theorem de_gS' {x z : Str} {pos : Pos} (hm : ∃ t, X.mg x = some (.str z t)) (hg : Gl X x := by rfl) (hd : (x == ("__debug__" : Str)) = false := by decide) : DE X W (.Name x pos) (ret (.str z)) := let ⟨_, h⟩ := hm; de_gS hg h hd
theorem pg_n {i : Nat} {x : Str} {pos : Pos} (hN : X.N.Nodup) (hi : X.N[i]? = some x := by rfl) (hx : Loc X.env.scope x := by first | exact Or.inl rfl | exact Or.inr rfl) (hf : X.fn x = true ∨ X.env.scope.names.lookup x = some .local := by first | exact .inl rfl | exact .inr rfl) : PG X (.Name x pos) (gName i) := pg_name hN hi hx hf
/-- a def as the top leaves it -/
structure Top (K : PySem.W.Frag) (mg : Str → Option Value) (x : Str) (st : Stmt) (ps : List Str) : Prop where
  ex : ∃ (f : Addr) (fd : FuncData), Fun K x x st f fd ∧ mg x = some (.ref f) ∧ Binds K fd ps [] ∧ ∀ (s : Shared) (us : List Value), us.length = ps.length → BindsTo s fd ⟨us, []⟩ (ps.zip us)
theorem top_mk {K : PySem.W.Frag} {h : Heap} {mg : Str → Option Value} (X : K.In h) (G : h.Ns mainGlobals mg) {x : Str} {st : Stmt} {ps : List Str} {f : Addr} {oc : Value} {od an : Option Addr} {osl : Array (Option Value)} {kV doc pm cdv ct : Value} (a : PySem.W.nsIn K mainGlobals x = some (some (.ref f)))
    (l : K.lookup f = some ⟨oc, od, .func (PySem.W.fnOf x x (defArgs st) (defBody st) (defScope st) .none kV doc pm an cdv ct), osl⟩) (c : PySem.W.codeIn K cdv x = true) (k : PySem.W.keepIn K (.ref f) = true)
    (b : ∀ (kV doc pm : Value) (an : Option Addr) (cdv ct : Value) (us : List Value), us.length = ps.length → bindArgs (PySem.W.fnOf x x (defArgs st) (defBody st) (defScope st) .none kV doc pm an cdv ct) ⟨us, []⟩ = pure (ps.zip us)) : Top K mg x st ps :=
  have F := fun_mk (st := st) l c k
  ⟨f, _, F, PySem.W.mg_of X G a, F.binds b, fun s us hl => .of_eq (b _ _ _ _ _ _ us hl)⟩
theorem Top.fn {P : Program} {wd : World} {K : PySem.W.Frag} {mg : Str → Option Value} {base : Heap} {x : Str} {st : Stmt} {N ps : List Str} {k : Nat} {g : M Out} (T : Top K mg x st ps) (Sc : FnScope N ps (defScope st)) (hle : ps.length ≤ N.length)
    (body : ∀ (f : Addr) (cdv : Value) (A : Around) (outer : List Env) (s : Shared) (H : Hp) (E : XK), Room k (A.deeper (envOfC x (defScope st) s.heap.objs.size f cdv)) →
      DSs (cxOf CX0 P wd K mg base N x (defScope st) f cdv A outer s H E).nox W0 (defBody st) g) : FnP P wd K mg base x ps.length (k + 1) (runP N.length g) :=
  let ⟨f, fd, F, m, b, _⟩ := T.ex
  ⟨f, fd, ps, rfl, m, F.kp, b, fn_pure F Sc hle fun cdv A outer s H E hr => body f cdv A outer s H E hr⟩
theorem Top.law {P : Program} {wd : World} {K : PySem.W.Frag} {mg : Str → Option Value} {x y : Str} {st : Stmt} {N : List Str} {k : Nat} {g : M Out} (T : Top K mg x st [y]) (Sc : FnScope N [y] (defScope st)) (hle : 1 ≤ N.length)
    (body : ∀ (base : Heap), K.In base → base.Ns mainGlobals mg → ∀ (f : Addr) (cdv : Value) (A : Around) (outer : List Env) (s : Shared) (H : Hp) (E : XK), Room k (A.deeper (envOfC x (defScope st) s.heap.objs.size f cdv)) →
      DSs (cxOf CX0 P wd K mg base N x (defScope st) f cdv A outer s H E).nox W0 (defBody st) g) :
    ∃ (fa : Addr) (fd : FuncData), mg x = some (.ref fa) ∧ (∀ (s : Shared) (u : Value), BindsTo s fd ⟨[u], []⟩ [(y, u)]) ∧ ∀ base : Heap, K.In base → base.Ns mainGlobals mg → FnOk P wd K mg base CX0 (k + 1) fa fd [y] (SpP K 1 (runP N.length g)) :=
  let ⟨f, fd, F, m, _, b⟩ := T.ex
  ⟨f, fd, m, fun s u => b s [u] rfl, fun base X G => fn_pure F Sc hle fun cdv A outer s H E hr => body base X G f cdv A outer s H E hr⟩
theorem ints_rep {K : PySem.W.Frag} {w : Wd} : ∀ ns : List Int, RepL K w (ns.map V.int) (ns.map D.int)
  | [] => .nil
  | n :: r => .cons (.int n) (ints_rep r)
/-- the law's def: from the script to True -/
theorem law_end {l : PySem.W.OpenLaw} {q : Program} {loose : List Str} {XP : (Str → Option Value) → Heap → Prop} {YP : World → Heap → Prop} {d : DefRec} {K : Params → PySem.W.Frag} {x : Str} {k : Nat} {F : Pf} (hn : l.most = some 63) (hdf : d.params.defaults = []) (hd : d.name = "law") (hr : Room k callerA)
    (hY : ∀ (w : World) (h : Heap), YP w h → (K w.params).In h)
    (W : ∀ (w : World) (mg : Str → Option Value) (h : Heap), (K w.params).In h → h.Ns mainGlobals mg → (∃ (fa : Addr) (fd : FuncData), mg "law" = some (.ref fa) ∧ (∀ (s : Shared) (u : Value), BindsTo s fd ⟨[u], []⟩ [(x, u)]) ∧
      ∀ base : Heap, (K w.params).In base → base.Ns mainGlobals mg → FnOk l.prog w (K w.params) mg base CX0 k fa fd [x] (SpP (K w.params) 1 F)))
    (hF : ∀ ns : List Int, ns.length ≤ 63 → (∀ z ∈ ns, Builtin.Int.intBits z ≤ 1048576) → F [.lst (ns.map D.int)] [] = some (.bl true)) :
    PySem.W.WalkO q loose XP YP l.row.toRowW d [] (fun f vs => PySem.call f vs) := by
  refine L2.walk_ofB (n := 63) (k := k) (x := x) (CX := fun _ => CX0) (sp := fun w => SpP (K w.params) 1 F) hn (by decide) hdf hr hY (fun w mg fa h X G hmg => ?_) (fun w H a ns hl hb _ hS => ?_) fun _ _ _ _ _ z => z
  · obtain ⟨fa', fd, e, b, G'⟩ := W w mg h X G
    rw [hd, e] at hmg
    cases hmg
    exact ⟨fd, b, G'⟩
  · refine ⟨rfl, ⟨[], H⟩, [], ⟨[], []⟩, [.lst (ns.map D.int)], .bl true, ⟨fun _ _ h => h, rfl, fun i d h => by simp at h, rfl, .nil, fun _ h => by simp at h, fun n a c e => by simp at e⟩, .cons (.lst hS (ints_rep ns)) .nil, hF ns hl hb, fun w' H' v _ _ r => ?_⟩
    cases r
    rfl
end Fx

namespace Fx
open PySem PySem.Spec PyProof.Rows L2
variable {X : Cx} {W : WX}
/-! ### a < b of numbers, texts, alike data -/
def rLtData (K : PySem.W.Frag) : R2 := fun x y H Q => ∃ d e, Dp K H x d ∧ Dp K H y e ∧ PySem.W.alike d e = true ∧ d ≠ .none ∧ d.depth ≤ 64 ∧ Q (.bl (PySem.W.dataLt d e)) H
theorem op_ltData (hu : X.A.units + 64 < cLine) : OpR X (compareOp .Lt) (rLtData X.K) := by
  intro pins s σ H x y v u Q I rx ry h
  obtain ⟨d, e, hd, he, al, dn, sd, q⟩ := h
  obtain ⟨as, r1⟩ := Dp.reads I d x v hd rx
  obtain ⟨bs, r2⟩ := Dp.reads I e y u he ry
  exact PySem.W.lt_data r1 r2 al dn (Nat.lt_of_le_of_lt (Nat.add_le_add_left (Nat.le_trans (Nat.min_le_left _ _) sd) _) hu) ⟨.bl _, H, I, rfl, q⟩
def rLtA (K : PySem.W.Frag) : R2 := fun x y H Q => rI0 (fun i j => .bl (decide (i < j))) x y H Q ∨ (∃ i j, x = .str i ∧ y = .str j ∧ Q (.bl (decide (i.cps.toList < j.cps.toList))) H) ∨ rLtData K x y H Q
theorem op_ltA (hu : X.A.units + 64 < cLine) : OpR X (compareOp .Lt) (rLtA X.K) := opr_or op_lt (opr_or op_lt_str (op_ltData hu))
def ltAM : D → D → M D
  | .int i, .int j => ret (.bl (decide (i < j)))
  | .str a, .str b => ret (.bl (decide (a.cps.toList < b.cps.toList)))
  | .tup a, .tup b => fun s => match pyD s (.tup a), pyD s (.tup b) with
    | some p, some q => if (PySem.W.alike p q && decide (p.depth ≤ 64)) = true then .ok (.bl (PySem.W.dataLt p q)) s else .bad
    | _, _ => .bad
  | _, _ => fail
theorem rop_ltA : ROp X (rLtA X.K) ltAM := by
  intro W w H σ s x y d e Q R rx ry p
  unfold ltAM at p
  split at p
  · cases rx; cases ry; exact .inl ⟨_, _, rfl, rfl, Post.here p R (Rep.bl _)⟩
  · cases rx; cases ry; exact .inr (.inl ⟨_, _, rfl, rfl, Post.here p R (Rep.bl _)⟩)
  · next a b =>
    split at p
    · next p1 q1 h1 h2 =>
      split at p
      · next k =>
        rw [Bool.and_eq_true, decide_eq_true_eq] at k
        refine .inr (.inr ⟨p1, q1, R.py rx h1, R.py ry h2, k.1, ?_, k.2, Post.here p R (Rep.bl _)⟩)
        intro z
        subst z
        unfold pyD at h1
        dsimp only at h1
        unfold pyT at h1
        cases h3 : pyL a with
        | none => rw [h3] at h1; cases h1
        | some y => rw [h3] at h1; cases h1
      · exact p.elim
    · exact p.elim
  · exact p.elim
/-! ### a slice of a text, a list, a tuple -/
theorem slr_or {r1 r2 : V → Option Int → Option Int → Hp → VK → Prop} (h1 : SlR X r1) (h2 : SlR X r2) : SlR X (fun x l u H Q => r1 x l u H Q ∨ r2 x l u H Q) := by
  intro pins s σ H x v vl vu lo hi sl Q I rx hs pl pu h
  rcases h with h | h
  · exact h1 pins s σ H x v vl vu lo hi sl Q I rx hs pl pu h
  · exact h2 pins s σ H x v vl vu lo hi sl Q I rx hs pl pu h
/-- t[a:b] of a tuple, not the whole, the new object known -/
def rSlC (K : PySem.W.Frag) : V → Option Int → Option Int → Hp → VK → Prop := fun x l u H Q => ∃ a xs, x = .ref a ∧ SqT K H a xs ∧
  ¬ (HT.sIx xs.length 0 l = 0 ∧ HT.sIx xs.length xs.length u = xs.length) ∧ ∀ (p : Addr) (o : Obj), o.dict = none → H p = none → Q (.ref p) (upd H p (.frz o (.tup (cutV xs l u))))
theorem sl_tupC : SlR X (rSlC X.K) := by
  intro pins s σ H x v vl vu lo hi sl Q I rx hs pl pu h
  obtain ⟨a, xs, e, hx, hw, q⟩ := h
  subst e
  cases rx
  obtain ⟨its, rv, ht, hz⟩ := I.tuple hx
  have hl : its.toArray.size = xs.length := by rw [List.size_toArray]; exact rv.length.symm
  refine ⟨"tuple", _, PyProof.Rows.slot_tuple_getitem.lookup, ht.typeIs, HT.getItem_tuple_cut ht hs pl pu (by rw [hl]; exact hw) ?_ (by rw [hl]; exact hz)⟩
  rw [hl]
  have hg : (s.heap.push { cls := .type "tuple", data := .seq ((its.toArray.toList.drop (HT.sIx xs.length 0 lo)).take (HT.sIx xs.length xs.length hi - HT.sIx xs.length 0 lo)).toArray }).get? s.heap.objs.size = some { cls := .type "tuple", data := .seq ((its.toArray.toList.drop (HT.sIx xs.length 0 lo)).take (HT.sIx xs.length xs.length hi - HT.sIx xs.length 0 lo)).toArray } := Heap.get?_push_size _ rfl
  have rr := (rv.drop (HT.sIx xs.length 0 lo)).take (HT.sIx xs.length xs.length hi - HT.sIx xs.length 0 lo)
  have hd : ({ cls := .type "tuple", data := .seq ((its.toArray.toList.drop (HT.sIx xs.length 0 lo)).take (HT.sIx xs.length xs.length hi - HT.sIx xs.length 0 lo)).toArray } : Obj).dict = none := rfl
  refine ⟨.ref s.heap.objs.size, _, ?_, rfl, q _ _ hd (I.hok.fresh (Nat.le_refl _))⟩
  exact I.laid (t' := s.toks) (fun b ob k => Heap.get?_push_of_some _ k) (Nat.le_refl _) ⟨hg, Nat.le_trans (cutV_length xs lo hi) hz, _, rr, ⟨_, hg, rfl, _, rfl⟩⟩
/-- t[a:b] of a tuple: the whole of it is t itself -/
def rSlCA (K : PySem.W.Frag) : V → Option Int → Option Int → Hp → VK → Prop := fun x l u H Q => ∃ a xs, x = .ref a ∧ SqT K H a xs ∧
  (HT.sIx xs.length 0 l = 0 ∧ HT.sIx xs.length xs.length u = xs.length → Q (.ref a) H) ∧
  (¬ (HT.sIx xs.length 0 l = 0 ∧ HT.sIx xs.length xs.length u = xs.length) → ∀ (p : Addr) (o : Obj), o.dict = none → H p = none → Q (.ref p) (upd H p (.frz o (.tup (cutV xs l u)))))
theorem sl_tupCA : SlR X (rSlCA X.K) := by
  intro pins s σ H x v vl vu lo hi sl Q I rx hs pl pu h
  obtain ⟨a, xs, e, hx, q1, q2⟩ := h
  by_cases hw : HT.sIx xs.length 0 lo = 0 ∧ HT.sIx xs.length xs.length hi = xs.length
  · exact sl_tupA pins s σ H x v vl vu lo hi sl Q I rx hs pl pu ⟨a, xs, e, hx, q1, fun n => absurd hw n⟩
  · exact sl_tupC pins s σ H x v vl vu lo hi sl Q I rx hs pl pu ⟨a, xs, e, hx, hw, q2 hw⟩
theorem cutD_whole {α : Type} {xs : List α} {l u : Option Int} (h : HT.sIx xs.length 0 l = 0 ∧ HT.sIx xs.length xs.length u = xs.length) : (xs.drop (HT.sIx xs.length 0 l)).take (HT.sIx xs.length xs.length u - HT.sIx xs.length 0 l) = xs := by
  rw [h.1, h.2, List.drop_zero, Nat.sub_zero, List.take_length]
def slV (d : D) (l u : Option Int) : M D := fun s => match d with
  | .str x => if lenOk x.length = true then .ok (.str (cutS x l u)) s else .bad
  | .tup ds => .ok (.tup (cutD ds l u)) s
  | d => match lstOf s d with
    | some ds => .ok (.lst (cutD ds l u)) s
    | none => .bad
def slM (f : M D) (lo hi : M (Option Int)) : M D := bnd f fun d => bnd lo fun l => bnd hi fun u => slV d l u
theorem de_sl {e : Expr} {lo hi : Option Expr} {f : M D} {fl fh : M (Option Int)} {pos p2 : Pos} (h : DE X W e f) (hl : DO X W lo fl) (hh : DO X W hi fh) : DE X W (.Subscript e (.Slice lo hi none p2) pos) (slM f fl fh) := by
  obtain ⟨t, p, r⟩ := h
  obtain ⟨tl, pl, rl⟩ := hl
  obtain ⟨th, ph, rh⟩ := hh
  refine ⟨_, pe_slice (slr_or sl_str (slr_or sl_list sl_tupCA)) p pl ph, fun w H σ s Q R z => ?_⟩
  refine r.bnd R z fun d s1 w1 H1 v1 l1 R1 r1 p1 => ?_
  refine rl.bnd R1 p1 fun a s2 w2 H2 v2 l2 R2 r2 p2 => ?_
  refine rh.bnd R2 p2 fun b s3 w3 H3 v3 l3 R3 r3 p3 => ?_
  cases r2; cases r3
  replace r1 := Rep.up l3 (Rep.up l2 r1)
  unfold slV at p3
  split at p3
  · next x =>
    cases r1
    split at p3
    · next k => exact .inl ⟨x, rfl, of_decide_eq_true k, Post.here p3 R3 (Rep.str _)⟩
    · exact p3.elim
  · next ds =>
    obtain ⟨a', vs, rfl, h1, h2⟩ := R3.tuple r1 (ds := ds) rfl
    refine .inr (.inr ⟨a', vs, rfl, h1, fun z => ?_, fun _ q o ho hq => ?_⟩)
    · have e : cutD ds a b = ds := by
        unfold cutD
        rw [RepL.length h2] at z
        exact cutD_whole z
      rw [e] at p3
      exact Post.here p3 R3 r1
    · obtain ⟨l4, R4, r4⟩ := R3.newT hq (h2.cut a b) ho
      exact p3 _ _ _ l4 R4 r4
  · split at p3
    · next ds hd =>
      obtain ⟨a', vs, rfl, h1, h2⟩ := R3.list r1 hd
      refine .inr (.inl ⟨a', vs, rfl, h1, fun q hq => ?_⟩)
      obtain ⟨l4, R4, r4⟩ := R3.newL hq (h2.cut a b)
      exact p3 _ _ _ l4 R4 r4
    · exact p3.elim
end Fx

/-! Fx: sorted(xs, key=f), f a def of the text -/
namespace PySem.W
open PySem PySem.Calls PyProof.Rows
section
variable {prog : Program} {w : World} {A : Around} {E : Value → Shared → Prop} {s : Shared} {a kS : Addr} {b : Bool} {vs : List Value} {e1 : Nat} {P : PySem.Fin → Shared → Prop} {kz : List PyData}
/-- the heap with a hole at kS -/
def holed (h : Heap) (kS : Addr) : Heap := h.update kS fun o => { o with data := .freed }
theorem holed_at (h : Heap) (kS : Addr) : (holed h kS).get? kS = none := by
  unfold holed Heap.update Heap.get?
  dsimp only
  rw [Array.getElem?_modify]
  simp only [if_true]
  cases h.objs[kS]? <;> rfl
theorem holed_ne (h : Heap) {kS c : Addr} (hc : c ≠ kS) : (holed h kS).get? c = h.get? c := (Heap.SameBut.update h kS _).2 c hc
/-- the keys are made and the items sorted; J: what the caller keeps true between the calls -/
theorem keyI_rest {f : Value} (J : List Value → Shared → Prop) (j0 : J [] s) (nk : s.heap.get? kS = some (seqObj "list" #[] 0)) (na : s.heap.get? a = some (seqObj "list" #[] e1)) (hka : kS ≠ a)
    (hlen : kz.length = vs.length) (hZ : vs.length ≤ sizeLine) (hal : AllAlike kz) (hsk : Sortable kz) (hu : ∀ d, d ∈ kz → A.units + d.depth < cLine)
    (turn : ∀ (i : Nat) (v : Value) (ks : List Value) (s' : Shared) (kA : Array Value) (e : Nat), vs[i]? = some v → ks.length = i → J ks s' → s'.heap.get? kS = some (seqObj "list" kA e) → s'.heap.get? a = some (seqObj "list" #[] e1) →
      wpAny (model prog w) A (call f [v]) (fun u s'' => J (ks ++ [u]) s'' ∧ s''.heap.get? kS = some (seqObj "list" kA e) ∧ s''.heap.get? a = some (seqObj "list" #[] e1)) (fun _ _ => False) s')
    (upd : ∀ ks s' h' tk, J ks s' → Heap.SameBut kS s'.heap h' → (∃ o, h'.get? kS = some o) → J ks { s' with heap := h', toks := tk })
    (keys : ∀ ks s', J ks s' → ks.length = vs.length → EachIs (fun v k => ∃ as, Reads s'.heap v k as) ks kz)
    (h : ∀ ks s' h' tk out c, J ks s' → (∀ q o, q ≠ a → q ≠ kS → s'.heap.get? q = some o → h'.get? q = some o) → h'.get? a = some (seqObj "list" (List.toArray out) c) → KeyedOut b kz vs out → P (.done (.ret .none)) { s' with heap := h', toks := tk }) :
    wpAny (model prog w) A (ksk_rest a f b vs.toArray e1 (.ref kS)) P E s := by
  unfold ksk_rest
  refine wpAny_bind (wpAny_rule ?_)
  first
    | rw [List.forIn_toArray]
    | (rw [← Array.forIn_toList]; simp only [List.toList_toArray])
  refine wpAny_bind (ksk_fold (fun i s' => ∃ ks e, ks.length = i ∧ J ks s' ∧ s'.heap.get? kS = some (seqObj "list" ks.toArray e) ∧ s'.heap.get? a = some (seqObj "list" #[] e1)) vs 0 s ⟨[], 0, rfl, j0, nk, na⟩ ?_ ?_)
  · rintro j x s' hx ⟨ks, e, hl, hJ, nk', na'⟩
    rw [Nat.zero_add] at hl
    have hj : j < vs.length := (List.getElem?_eq_some_iff.mp hx).1
    refine wpAny_bind (wpAny_attempt (wpAny_mono (turn j x ks s' ks.toArray e hx hl hJ nk' na') (fun v s'' he => ?_) fun _ _ hF => hF.elim))
    obtain ⟨hJ2, nk2, na2⟩ := he
    dsimp only
    have s1 := Heap.SameBut.update s''.heap kS (Obj.mapSeq (·.push v))
    obtain ⟨c2, hc2⟩ : ∃ c2, (s''.heap.update kS (Obj.mapSeq (·.push v))).get? kS = some (seqObj "list" (ks.toArray.push v) c2) := ⟨_, get?_update_seq nk2 (·.push v)⟩
    refine wpAny_bind (listUpdate_at nk2 rfl ?_ (by rw [List.size_toArray]; omega) (by rw [Array.size_push, List.size_toArray]; omega))
    refine wpAny_pure ⟨rfl, ks ++ [v], c2, by rw [List.length_append, hl, Nat.zero_add]; rfl, upd _ _ _ _ hJ2 s1 ⟨_, hc2⟩, ?_, (s1.2 a hka.symm).trans na2⟩
    rw [show (ks ++ [v]).toArray = ks.toArray.push v by simp]
    exact hc2
  · rintro s' ⟨ks, e, hl, hJ, nk', na'⟩
    rw [Nat.zero_add] at hl
    try dsimp only
    refine wpAny_bind (listItems_at nk' rfl ?_)
    have hk := keys ks s' hJ hl
    refine keyH_end (κ := dataKind s'.heap kz) (h₁ := holed s'.heap kS) (s := s') (keys := ks.toArray) (fun q o hq e => ?_) (holed_at _ _) nk' na' hka (SortsAt.data (s := s') (by simpa using hk) hal hsk hu) (by rw [List.size_toArray]; exact hl) hZ fun h' tk c kp hD => ?_
    · by_cases hqk : q = kS
      · subst hqk
        rw [holed_at] at e
        cases e
      · rw [← e, holed_ne _ hqk]
    · refine h ks s' h' tk _ c hJ (fun q o h1 h2 e => kp q o h1 ((holed_ne _ h2).trans e)) hD ⟨s'.heap, ks, hal, ?_, hk⟩
      simp

theorem sortedI_key {l : Addr} {f : Value} {kw : List (Str × Value)} {Q : Value → Shared → Prop} (J : Addr → Addr → List Value → Shared → Prop) (hl : s.heap.IsList l vs.toArray) (hlen : kz.length = vs.length) (hZ : vs.length ≤ sizeLine) (hal : AllAlike kz) (hsk : Sortable kz)
    (hu : ∀ d, d ∈ kz → A.units + 2 + d.depth < cLine) (ha1 : argsOk "sorted" ⟨[.ref l], kw⟩) (ha2 : ∀ x, argsOk "list.sort" ⟨[.ref x], kw⟩) (ht : ∀ x, Builtin.«list.sort» ⟨[.ref x], kw⟩ = ksk_tree x f b)
    (j0 : ∀ a kS h' tk, s.heap.objs.size ≤ a → s.heap.objs.size ≤ kS → kS ≠ a → (∀ b o, s.heap.get? b = some o → h'.get? b = some o) → J a kS [] { s with heap := h', toks := tk })
    (turn : ∀ (a kS : Addr) (i : Nat) (v : Value) (ks : List Value) (s' : Shared) (kA : Array Value) (e e1 : Nat), vs[i]? = some v → ks.length = i → J a kS ks s' → s'.heap.get? kS = some (seqObj "list" kA e) → s'.heap.get? a = some (seqObj "list" #[] e1) →
      wpAny (model prog w) A.in1.in1 (call f [v]) (fun u s'' => J a kS (ks ++ [u]) s'' ∧ s''.heap.get? kS = some (seqObj "list" kA e) ∧ s''.heap.get? a = some (seqObj "list" #[] e1)) (fun _ _ => False) s')
    (upd : ∀ a kS ks s' h' tk, J a kS ks s' → Heap.SameBut kS s'.heap h' → (∃ o, h'.get? kS = some o) → J a kS ks { s' with heap := h', toks := tk })
    (keys : ∀ a kS ks s', J a kS ks s' → ks.length = vs.length → EachIs (fun v k => ∃ as, Reads s'.heap v k as) ks kz)
    (h : ∀ a kS ks s' h' tk out c, J a kS ks s' → (∀ q o, q ≠ a → q ≠ kS → s'.heap.get? q = some o → h'.get? q = some o) → h'.get? a = some (seqObj "list" (List.toArray out) c) → KeyedOut b kz vs out → Q (.ref a) { s' with heap := h', toks := tk }) :
    wpAny (model prog w) A (call (.builtin "sorted") [.ref l] kw) Q E s := by
  refine sorted_of_sort hl hZ ha1 ha2 fun E' => ?_
  rw [ht]
  have ho := copyHeap_at s.heap vs
  have ha : s.heap.objs.size + 1 < (copyHeap s.heap vs).objs.size := Heap.lt_size ho
  obtain ⟨e1, ho1⟩ : ∃ e1, ((copyHeap s.heap vs).update (s.heap.objs.size + 1) (Obj.mapSeq fun _ => (#[] : Array Value))).get? (s.heap.objs.size + 1) = some (seqObj "list" #[] e1) := ⟨_, get?_update_seq ho fun _ => #[]⟩
  have hkS : (((copyHeap s.heap vs).update (s.heap.objs.size + 1) (Obj.mapSeq fun _ => (#[] : Array Value))).push (seqObj "tuple" vs.toArray 0)).objs.size = (copyHeap s.heap vs).objs.size + 1 := by rw [size_push', Heap.size_update]
  have s1 := Heap.SameBut.update (copyHeap s.heap vs) (s.heap.objs.size + 1) (Obj.mapSeq fun _ => (#[] : Array Value))
  unfold ksk_tree
  refine wpAny_bind (listItems_at ho rfl ?_)
  refine wpAny_bind (listUpdate_at ho rfl ?_ (by rw [List.size_toArray]; exact hZ) (Nat.zero_le _))
  refine wpAny_bind (seqEpoch_at ho1 rfl ?_)
  refine wpAny_bind (wpAny_newTuple ?_ (by show vs.length ≤ _; exact hZ))
  refine wpAny_bind (wpAny_newList ?_ (Nat.zero_le _))
  refine wpAny_holding ?_
  have hne : (((copyHeap s.heap vs).update (s.heap.objs.size + 1) (Obj.mapSeq fun _ => (#[] : Array Value))).push (seqObj "tuple" vs.toArray 0)).objs.size ≠ s.heap.objs.size + 1 := by rw [hkS]; exact Nat.ne_of_gt (Nat.lt_succ_of_lt ha)
  refine keyI_rest (kz := kz) (s := { s with heap := (((copyHeap s.heap vs).update (s.heap.objs.size + 1) (Obj.mapSeq fun _ => (#[] : Array Value))).push (seqObj "tuple" vs.toArray 0)).push (seqObj "list" #[] 0) })
    (kS := (((copyHeap s.heap vs).update (s.heap.objs.size + 1) (Obj.mapSeq fun _ => (#[] : Array Value))).push (seqObj "tuple" vs.toArray 0)).objs.size) (J (s.heap.objs.size + 1) _)
    (j0 _ _ _ s.toks (Nat.le_succ _) (by rw [hkS]; omega) hne fun q o e => Heap.get?_push_of_some _ (Heap.get?_push_of_some _ ((s1.2 q (Nat.ne_of_lt (Nat.lt_succ_of_lt (Heap.lt_size e)))).trans (copyHeap_old e)))) (Heap.get?_push_size _ rfl) (Heap.get?_push_of_some _ (Heap.get?_push_of_some _ ho1)) hne hlen hZ hal hsk (fun d hd => hu d hd)
    (fun i v ks s' kA e => turn _ _ i v ks s' kA e e1) (upd _ _) (keys _ _) fun ks s' h' tk out c a1 a2 a3 a4 => ⟨rfl, h _ _ ks s' h' tk out c a1 a2 a3 a4⟩
end
end PySem.W
namespace Fx
open PySem PySem.Spec PyProof.Rows L2
/-- what is asked of the keys -/
def GoodK (ps : List PyData) : Prop := PySem.W.AllAlike ps ∧ PySem.W.Sortable ps ∧ ∀ p ∈ ps, p.depth ≤ 60
def sortP (ds : List D) (ps : List PyData) : List D := ((ds.zip ps).mergeSort (PySem.W.dataLe false Prod.snd)).map Prod.fst
def keysD (F : Pf) (vh : List Cell) (ds : List D) : Option (List D) := mapO (fun x => F [x] vh) ds
noncomputable def sortKM (F : Pf) (ds : List D) : M Cell := fun s => match keysD F s.vh ds with
  | some kds => match pyL kds with
    | some ps => open Classical in if GoodK ps ∧ ds.length ≤ 16777216 then .ok (.lst (sortP ds ps)) s else .bad
    | none => .bad
  | none => .bad
noncomputable def sortKN (F : Pf) (d : D) : M Cell := fun s => match itemsOf s d with
  | some ds => match d with
    | .lst _ | .cell _ => sortKM F ds s
    | _ => .bad
  | none => .bad
theorem mapO_length {f : D → Option D} : ∀ {xs ys : List D}, mapO f xs = some ys → ys.length = xs.length
  | [], ys, h => by cases h; rfl
  | x :: xs, ys, h => by
    unfold mapO at h
    cases h1 : f x with
    | none => rw [h1] at h; cases h
    | some y =>
      cases h2 : mapO f xs with
      | none => rw [h1, h2] at h; cases h
      | some zs => rw [h1, h2] at h; cases h; rw [List.length_cons, List.length_cons, mapO_length h2]
theorem mapO_at {f : D → Option D} : ∀ {xs ys : List D} {i : Nat} {x : D}, mapO f xs = some ys → xs[i]? = some x → ∃ y, ys[i]? = some y ∧ f x = some y
  | [], ys, i, x, h, e => by cases e
  | z :: xs, ys, i, x, h, e => by
    unfold mapO at h
    cases h1 : f z with
    | none => rw [h1] at h; cases h
    | some y =>
      cases h2 : mapO f xs with
      | none => rw [h1, h2] at h; cases h
      | some zs =>
        rw [h1, h2] at h; cases h
        cases i with
        | zero => cases e; exact ⟨y, rfl, h1⟩
        | succ i => exact mapO_at (i := i) h2 e
theorem pyL_length : ∀ {ds : List D} {ps : List PyData}, pyL ds = some ps → ps.length = ds.length
  | [], ps, h => by cases h; rfl
  | x :: xs, ps, h => by
    unfold pyL at h
    cases h1 : pyT x with
    | none => rw [h1] at h; cases h
    | some y =>
      cases h2 : pyL xs with
      | none => rw [h1, h2] at h; cases h
      | some zs => rw [h1, h2] at h; cases h; rw [List.length_cons, List.length_cons, pyL_length h2]
theorem RepL.snoc {K : PySem.W.Frag} {w : Wd} {v : V} {d : D} (r : Rep K w v d) : ∀ {vs : List V} {ds : List D}, RepL K w vs ds → RepL K w (vs ++ [v]) (ds ++ [d])
  | _, _, .nil => .cons r .nil
  | _, _, .cons h t => .cons h (RepL.snoc r t)
theorem RepL.at' {K : PySem.W.Frag} {w : Wd} : ∀ {vs : List V} {ds : List D} {i : Nat} {v : V}, RepL K w vs ds → vs[i]? = some v → ∃ d, ds[i]? = some d ∧ Rep K w v d
  | _, _, _, _, .nil, e => by cases e
  | _, _, 0, _, .cons h _, e => by cases e; exact ⟨_, rfl, h⟩
  | _, _, i + 1, _, .cons _ t, e => RepL.at' (i := i) t e
theorem Vals.at' : ∀ {xs : List V} {us : List Value} {i : Nat} {u : Value}, Vals xs us → us[i]? = some u → ∃ x, xs[i]? = some x ∧ RelV x u
  | _, _, _, _, .nil, e => by cases e
  | _, _, 0, _, .cons h _, e => by cases e; exact ⟨_, rfl, h⟩
  | _, _, i + 1, _, .cons _ t, e => Vals.at' (i := i) t e
theorem each_rep {K : PySem.W.Frag} {w : Wd} : ∀ {vs : List V} {ds : List D} {us : List Value} {ps : List PyData}, RepL K w vs ds → Vals vs us → ps.length = ds.length →
    PySem.W.EachIs (fun (u : Value) (b : D × PyData) => ∃ x, RelV x u ∧ Rep K w x b.1) us (ds.zip ps)
  | _, _, _, [], .nil, .nil, _ => .nil
  | _, _, _, p :: ps, .cons h t, .cons r rs, e => .cons ⟨_, r, h⟩ (each_rep t rs (by simpa using e))
theorem rep_each {K : PySem.W.Frag} {w : Wd} : ∀ {us : List Value} {bs : List (D × PyData)}, PySem.W.EachIs (fun (u : Value) (b : D × PyData) => ∃ x, RelV x u ∧ Rep K w x b.1) us bs → ∃ vs, Vals vs us ∧ RepL K w vs (bs.map Prod.fst)
  | _, _, .nil => ⟨[], .nil, .nil⟩
  | _, _, .cons ⟨x, r, h⟩ t => let ⟨vs, a, b⟩ := rep_each t; ⟨x :: vs, .cons r a, .cons h b⟩
variable {X : Cx} {W : WX}
def rSortK (K : PySem.W.Frag) (F : Pf) (f : Addr) : List V → List V → Hp → VK → Prop := fun vs zs H Q => ∃ (a : Addr) (w : Wd) (σ : L2.St) (st : S) (xs : List V) (ds kds : List D) (ps : List PyData), vs = [.ref a] ∧ zs = [.ref f] ∧ RS K w H σ st ∧ SqL K H a xs ∧ RepL K w xs ds ∧
  keysD F st.vh ds = some kds ∧ pyL kds = some ps ∧ GoodK ps ∧ ds.length ≤ 16777216 ∧ ∀ w' H' v, Le w H w' H' → RS K w' H' σ st → (pN K).p H w' H' v (.lst (sortP ds ps)) → Q v H'
theorem cr_sortK {f : Addr} {fd : FuncData} {pn : List Str} {k : Nat} {F : Pf} (hps : pn.length = 1) (hb : Binds X.K fd pn []) (G : FnOk X.prog X.w X.K X.mg X.base CX0 k f fd pn (SpP X.K 1 F)) (hr : Room (k + 2) X.A) :
    CallRK X (.builtin "sorted") [Str.ofString "key"] (rSortK X.K F f) := by
  intro pins s σ H vs zs us ws Q I r rz h
  obtain ⟨a, w, σ0, st, xs, ds, kds, ps, rfl, rfl, R, hs, hx, hk, hp, hg, hz, q⟩ := h
  obtain rfl := Vals.ref1 r
  obtain ⟨w1, rfl, e1⟩ := vals1 rz
  obtain rfl : w1 = Value.ref f := e1
  obtain ⟨its, rv, hl, hz2⟩ := I.list hs
  have l1 := RepL.length hx
  have l2 := rv.length
  have l3 := mapO_length hk
  have l4 := pyL_length hp
  have hu : X.A.units + 66 < cLine := by have := hr.un; omega
  refine PySem.W.sortedI_key (b := false) (kz := ps) (vs := its)
    (fun a' kS ks s' => s.heap.objs.size ≤ a' ∧ s.heap.objs.size ≤ kS ∧ kS ≠ a' ∧ ∃ w' H' kvs, Inv X pins σ H' s' ∧ Le w H w' H' ∧ RS X.K w' H' σ0 st ∧ Vals kvs ks ∧ RepL X.K w' kvs (kds.take ks.length) ∧ H' a' = none ∧ H' kS = none)
    hl.isList (by omega) (by omega) hg.1 hg.2.1 (fun d hd => by have := hg.2.2 d hd; omega) (PyProof.Rows.ksk_s1 _ _) (fun _ => PyProof.Rows.ksk_l1 _ _) (fun _ => PyProof.Rows.ksk_t1 _ _)
    (fun a' kS h' tk h1 h2 h3 h4 => ⟨h1, h2, h3, w, H, [], I.kept (t' := tk) h4, Le.refl _ _, R, .nil, by rw [List.length_nil, List.take_zero]; exact .nil, I.hok.fresh h1, I.hok.fresh h2⟩) ?turn ?upd ?keys ?fin
  case turn =>
    intro a' kS i v ks s' kA e e1 hv hi ⟨h1, h2, h3, w', H', kvs, I', l', R', rk, hk', n1, n2⟩ g1 g2
    obtain ⟨y, hy, ry⟩ := Vals.at' rv hv
    obtain ⟨d, hd, rd⟩ := RepL.at' hx hy
    obtain ⟨kd, hkd, hF⟩ := mapO_at hk hd
    have f1 := I.fpOk h1 n1
    have f2 := I.fpOk h2 n2
    have I2 : Inv X ((kS, seqObj "list" kA e) :: (a', seqObj "list" #[] e1) :: pins) σ H' s' := I'.pins_of fun p hp => by
      rcases List.mem_cons.mp hp with rfl | hp
      · exact ⟨g1, n2, f2.2.1, f2.2.2.1, fun v z => by cases z⟩
      · rcases List.mem_cons.mp hp with rfl | hp
        · exact ⟨g2, n1, f1.2.1, f1.2.2.1, fun v z => by cases z⟩
        · exact I'.pin p (List.mem_append_right _ hp)
    have r2 : Vals [y] [v] := .cons ry .nil
    have hr2 : Room k X.A.in1.in1 := hr.in1.in1
    have sp : SpP X.K 1 F [y] H' (fun u H2 => ∃ w2, Le w' H' w2 H2 ∧ RS X.K w2 H2 σ0 st ∧ Rep X.K w2 u kd) (fun _ _ _ => False) := ⟨rfl, w', σ0, st, [d], kd, R', .cons (Rep.up l' rd) .nil, hF, fun w2 H2 u l2 R2 r2 => ⟨w2, l2, R2, r2⟩⟩
    refine wpAny_call (codeAny_mono (G.run X.A.in1.in1 X.stack s' H' ⟨[v], []⟩ [v] [y] _ _ hr2 I2.env0.in1.in1 (hb s' [v] I2.kIn (by rw [hps]; rfl)) r2 sp) fun r s'' hq => ?_)
    cases r with
    | error e => exact hq.elim
    | ok fl =>
      cases fl with
      | next => exact False.elim hq
      | brk => exact False.elim hq
      | cont => exact False.elim hq
      | ret u =>
        obtain ⟨x, H2, I3, rx, w2, l2, R2, rk2⟩ := I2.after hq
        have p1 := I3.pin (kS, seqObj "list" kA e) (List.mem_append_right _ (.head _))
        have p2 := I3.pin (a', seqObj "list" #[] e1) (List.mem_append_right _ (.tail _ (.head _)))
        refine ⟨⟨h1, h2, h3, w2, H2, kvs ++ [x], I3.pins_of fun p hp => I3.pin p (List.mem_append_right _ (.tail _ (.tail _ hp))), l'.trans l2, R2, rk.append (.cons rx .nil), ?_, p2.2.1, p1.2.1⟩, p1.1, p2.1⟩
        rw [List.length_append, List.length_cons, List.length_nil, Nat.zero_add, List.take_add_one]
        rw [hi] at hk' ⊢
        rw [hkd]
        exact RepL.snoc rk2 (RepL.up l2 hk')
  case upd =>
    intro a' kS ks s' h' tk ⟨h1, h2, h3, w', H', kvs, I', l', R', rk, hk', n1, n2⟩ hs2 _
    have f2 := I.fpOk h2 n2
    exact ⟨h1, h2, h3, w', H', kvs, I'.turned (t' := tk) (fun b o hb e => (hs2.2 b hb).trans e) n2 f2.2.1 f2.2.2.2.1 f2.2.2.2.2.1 f2.2.2.2.2.2, l', R', rk, hk', n1, n2⟩
  case keys =>
    intro a' kS ks s' ⟨h1, h2, h3, w', H', kvs, I', l', R', rk, hk', n1, n2⟩ hlen
    rw [hlen, List.take_of_length_le (by omega)] at hk'
    obtain ⟨as, ra⟩ := Dp.readsAll I' ps kvs ks (dpL_of R'.sub hk' hp) rk
    have := PySem.W.readsAll_each (enc := id) (vs := ks) (bs := ps) (as := as) (h := s'.heap) (by rw [List.map_id]; exact ra)
    exact this
  case fin =>
    intro a' kS ks s' h' tk out c ⟨h1, h2, h3, w', H', kvs, I', l', R', rk, hk', n1, n2⟩ hkeep hD ko
    have e0 : (ds.zip ps).map Prod.snd = ps := List.map_snd_zip (by omega)
    have eo := PySem.W.keyedOut_each (R := fun (u : Value) (b : D × PyData) => ∃ x, RelV x u ∧ Rep X.K w' x b.1) (bs := ds.zip ps) (vs := its) (out := out) (rev := false) Prod.snd (by rw [e0]; exact ko) (each_rep (RepL.up l' hx) rv (by omega))
    obtain ⟨ys, ry, hy⟩ := rep_each eo
    have hly : ys.length ≤ sizeLine := by
      rw [RepL.length hy, List.length_map, List.length_mergeSort, List.length_zip]
      omega
    have f1 := I.fpOk h1 n1
    have f2 := I.fpOk h2 n2
    have na : ∀ b u, H' b = some u → b ≠ a' := fun b u e z => by rw [z, n1] at e; cases e
    have nk : ∀ b u, H' b = some u → b ≠ kS := fun b u e z => by rw [z, n2] at e; cases e
    have up : ∀ b u, H' b = some u → upd H' a' (.lst ys) b = some u := fun b u e => by rw [upd_ne (na b u e)]; exact e
    have kp : ∀ b o, b ∉ [a', kS] → s'.heap.get? b = some o → h'.get? b = some o := fun b o hb e => hkeep b o (fun z => hb (by simp [z])) (fun z => hb (by simp [z])) e
    have J : Inv X pins σ (upd H' a' (.lst ys)) { s' with heap := h', toks := tk } := by
      refine I'.step (g' := s'.gens) (d' := s'.drawn) (ch := [a', kS]) (fun b hb => ?_) (fun b o _ _ hc e _ => kp b o hc e) (fun b o _ _ hc e _ => ⟨o.slots, kp b o hc e⟩) (fun b o hc _ n => by rw [upd_ne (fun z => hc (by simp [z]))]; exact n)
        (fun b o hc e => ⟨o, kp b o hc e⟩) (fun b _ e => up b _ e) (fun b _ _ e => up b _ e) (fun b ps e => ⟨#[], by rw [up b _ e]; simp⟩) (fun m hm => ?_) (fun b u e => ?_) I'.bare
      · rcases List.mem_cons.mp hb with rfl | hb
        · exact ⟨f1.2.2.2.1, f1.2.1, f1.2.2.2.2.1, f1.2.2.2.2.2⟩
        · rw [List.mem_singleton.mp hb]
          exact ⟨f2.2.2.2.1, f2.2.1, f2.2.2.2.2.1, f2.2.2.2.2.2⟩
      · obtain ⟨o, es, ep, ho, r⟩ := hm
        exact ⟨o, es, ep, hkeep _ o (Ne.symm f1.2.1) (Ne.symm f2.2.1) ho, r⟩
      · by_cases hb : b = a'
        · subst hb
          rw [upd_same] at e
          cases e
          exact ⟨hly, out, c, ry, hD⟩
        · rw [upd_ne hb] at e
          refine (I'.hok b u e).stay (fun c v hc z => hkeep c v ?_ ?_ z) (fun c z => up c _ z) fun c xs z => up c _ z
          · rcases hc with hc | hc
            · rw [hc]; exact hb
            · exact na c _ hc
          · rcases hc with hc | hc
            · rw [hc]; exact nk b _ e
            · exact nk c _ hc
    exact ⟨.ref a', upd H' a' (.lst ys), J, rfl, q w' _ (.ref a') (l'.trans (Le.laid n1)) (R'.laid n1) ⟨a', rfl, (R'.fresh n1).1, (R'.fresh n1).2, ⟨ys, upd_same, hy⟩, I.hok.fresh h1⟩⟩
theorem dn_sortK {y : Str} {k : Nat} {F : Pf} {e : Expr} {fe : M D} {p p2 kp pos : Pos} (hm : X.mg "sorted" = none) (h : FnP X.prog X.w X.K X.mg X.base y 1 k F) (hr : Room (k + 2) X.A) (he' : DE X W e fe) (hg : Gl X "sorted" := by rfl) (hgy : Gl X y := by rfl) (hdy : (y == ("__debug__" : Str)) = false := by decide)
    (hs : starEach [e] X.env = (false, eval e X.env) :: starEach [] X.env := by rfl) (he : backTo pos (starEach [e] X.env) = (false, eval e X.env) :: backTo pos (starEach [] X.env) := by rfl) (hpl : (backTo pos (starEach [e] X.env)).any (·.1) = false := by rfl) :
    DN X W (.Call (.Name "sorted" p) [e] [⟨some "key", .Name y p2, kp⟩] pos) (bnd fe (sortKN F)) := by
  obtain ⟨f, fd, ps, hps, hmy, hk, hb, G⟩ := h.ex
  obtain ⟨t, q, r⟩ := he'
  refine ⟨_, pe_callBK (cr_sortK hps hb G hr) hg hm rfl (pa_cons q pa_nil hs) (pk_cons (pe_glob hgy hmy (v := .ref f) rfl hdy) pk_nil) (by decide) (by decide) he hpl, fun w H σ s Q R z => ?_⟩
  show t σ H fun v H1 => rSortK X.K F f [v] [.ref f] H1 Q
  refine r.bnd R z fun d s1 w1 H1 v l1 R1 r1 p1 => ?_
  unfold sortKN at p1
  split at p1
  · next ds hd =>
    have main : ∀ (hl : lstOf s1 d = some ds), Post X.K W (pN X.K) w1 H1 σ (sortKM F ds s1) Q → rSortK X.K F f [v] [.ref f] H1 Q := fun hl p1 => by
      obtain ⟨a, xs, rfl, h1, h2⟩ := R1.list r1 hl
      unfold sortKM at p1
      split at p1
      · next kds hk =>
        split at p1
        · next ps hp =>
          split at p1
          · next k =>
            exact ⟨a, w1, σ, s1, xs, ds, kds, ps, rfl, rfl, R1, h1, h2, hk, hp, k.1, k.2, p1⟩
          · exact p1.elim
        · exact p1.elim
      · exact p1.elim
    cases d with
    | lst xs => exact main hd p1
    | cell n => exact main hd p1
    | _ => exact p1.elim
  · exact p1.elim
end Fx

/-! Fx: more methods of lists -/
namespace Fx
open PySem PySem.Spec PyProof.Rows L2
variable {X : Cx} {W : WX}
/-- insert(i, x), i not below 0 -/
def insM (d : D) : List D → M D
  | [.int i, e] => wrM d fun ds s => if ds.length < sizeLine ∧ 0 ≤ i ∧ i < 2 ^ 62 then .ok (ds.take i.toNat ++ [e] ++ ds.drop i.toNat, .non) s else .bad
  | _ => fail
theorem RepL.dropN {K : PySem.W.Frag} {w : Wd} : ∀ {vs : List V} {ds : List D} (n : Nat), RepL K w vs ds → RepL K w (vs.drop n) (ds.drop n)
  | _, _, 0, h => by rw [List.drop_zero, List.drop_zero]; exact h
  | _, _, n + 1, .nil => by rw [List.drop_nil, List.drop_nil]; exact .nil
  | _, _, n + 1, .cons _ t => by rw [List.drop_succ_cons, List.drop_succ_cons]; exact RepL.dropN n t
theorem rm_insert : RMt X (fun x vs H Q => ∃ (l : Addr) (xs : List V) (i : Int) (y : V), x = .ref l ∧ vs = [.int i, y] ∧ H l = some (.lst xs) ∧ xs.length < sizeLine ∧ 0 ≤ i ∧ i < 2 ^ 63 ∧
    Q .non (upd H l (.lst (xs.take i.toNat ++ [y] ++ xs.drop i.toNat)))) insM := by
  intro W w H σ s v vs d ds Q R r rs p
  unfold insM at p
  split at p
  · next i e =>
    obtain ⟨u, u2, rfl, ru, ru2⟩ := two_of rs
    cases ru
    obtain ⟨a, us, ds, es, y, s', rfl, h1, h2, h3, h4⟩ := R.wr r p
    split at h3
    · next k =>
      cases h3
      exact ⟨a, us, i, u2, rfl, rfl, h1, by rw [RepL.length h2]; exact k.1, k.2.1, Int.lt_trans k.2.2 (by decide), h4 rfl _ _ (RepL.append (RepL.append (RepL.take _ h2) (.cons ru2 .nil)) (RepL.dropN _ h2)) Rep.non⟩
    · cases h3
  · exact p.elim
theorem de_insert {o e e2 : Expr} {f : M D} {fs : M (List D)} {ap pos : Pos} (ho : DE X W o f) (ha : DA X W [e, e2] fs) (hbase : attributeBase o "insert" X.env (eval o X.env) = eval o X.env := by rfl)
    (hfew : ((backTo pos (starEach [e, e2] X.env)).all (fun x => !x.1) && (backToKw pos (keywordEach [] X.env)).all (fun x => x.1.isSome)
      && decide (([e, e2] : List Expr).length + ([] : List Keyword).length + (if ([] : List Keyword).isEmpty then 0 else 1) < 30)) = true := by rfl)
    (hline : (ap.endLine == pos.line) = true := by rfl) (hs : starEach [e, e2] X.env = (false, eval e X.env) :: starEach [e2] X.env := by rfl) (hplain : (backTo pos (starEach [e2] X.env)).any (·.1) = false := by rfl) :
    DE X W (.Call (.Attribute o "insert" ap) [e, e2] [] pos) (methM "list" f fs insM) :=
  de_meth rm_insert PySem.F.plainAttrs_list PySem.F.slot_list_insert PySem.F.type_list_insert mt_insert ho ha hbase hfew hline hs hplain
/-- pop() -/
def popM (d : D) : M D := wrM d fun ds s => match ds[ds.length - 1]? with
  | some e => .ok (ds.dropLast, e) s
  | none => .bad
theorem RepL.dropLast {K : PySem.W.Frag} {w : Wd} {vs : List V} {ds : List D} (h : RepL K w vs ds) : RepL K w vs.dropLast ds.dropLast := by
  rw [List.dropLast_eq_take, List.dropLast_eq_take, RepL.length h]
  exact RepL.take _ h
theorem RepL.at2 {K : PySem.W.Frag} {w : Wd} : ∀ {vs : List V} {ds : List D} {i : Nat} {d : D}, RepL K w vs ds → ds[i]? = some d → ∃ v, vs[i]? = some v ∧ Rep K w v d
  | _, _, _, _, .nil, e => by cases e
  | _, _, 0, _, .cons h _, e => by cases e; exact ⟨_, rfl, h⟩
  | _, _, i + 1, _, .cons _ t, e => RepL.at2 (i := i) t e
def RMt0 (X : Cx) (r : V → List V → Hp → VK → Prop) (g : D → M D) : Prop := ∀ (W : WX) w H σ s v d Q, RS X.K w H σ s → Rep X.K w v d → Post X.K W (pD X.K) w H σ (g d s) Q → r v [] H Q
theorem de_meth00 {o : Expr} {f : M D} {g : D → M D} {name : Str} {ap pos : Pos} {T id : String} {r : V → List V → Hp → VK → Prop} (hr : RMt0 X r g) (pa : PlainAttrs T) (slot : Slot T name id) (hty : typeOf (.builtin id) = pure (.type "method_descriptor")) (hm : MtR X id r)
    (ho : DE X W o f) (hbase : attributeBase o name X.env (eval o X.env) = eval o X.env := by rfl) (hline : (ap.endLine == pos.line) = true := by rfl) :
    DE X W (.Call (.Attribute o name ap) [] [] pos) (meth0M T f g) := by
  obtain ⟨to, po, ro⟩ := ho
  refine ⟨_, pe_bm0 pa slot hty hm po hbase hline, fun w H σ s Q R z => ?_⟩
  refine ro.bnd R z fun d s1 w1 H1 v l1 R1 r1 p1 => ?_
  split at p1
  · next k => exact ⟨tyV_of R1 r1 k, hr W w1 H1 σ s1 v d Q R1 r1 p1⟩
  · exact p1.elim
theorem rm_pop : RMt0 X rPop popM := by
  intro W w H σ s v d Q R r p
  obtain ⟨a, us, ds, es, y, s', rfl, h1, h2, h3, h4⟩ := R.wr r p
  split at h3
  · next e he =>
    cases h3
    obtain ⟨u, hu, ru⟩ := RepL.at2 h2 he
    exact ⟨a, us, u, rfl, rfl, h1, by rw [RepL.length h2]; exact hu, h4 rfl _ _ (RepL.dropLast h2) ru⟩
  · cases h3
theorem de_pop {o : Expr} {f : M D} {ap pos : Pos} (ho : DE X W o f) (hbase : attributeBase o "pop" X.env (eval o X.env) = eval o X.env := by rfl) (hline : (ap.endLine == pos.line) = true := by rfl) :
    DE X W (.Call (.Attribute o "pop" ap) [] [] pos) (meth0M "list" f popM) := de_meth00 rm_pop PySem.F.plainAttrs_list PySem.F.slot_list_pop PySem.F.type_list_pop mt_pop ho hbase hline
def clrM (d : D) : M D := wrM d fun _ s => .ok ([], .non) s
theorem rm_clear : RMt0 X rClear clrM := by
  intro W w H σ s v d Q R r p
  obtain ⟨a, us, ds, es, y, s', rfl, h1, h2, h3, h4⟩ := R.wr r p
  cases h3
  exact ⟨a, us, rfl, rfl, h1, h4 rfl _ _ .nil Rep.non⟩
theorem de_clear {o : Expr} {f : M D} {ap pos : Pos} (ho : DE X W o f) (hbase : attributeBase o "clear" X.env (eval o X.env) = eval o X.env := by rfl) (hline : (ap.endLine == pos.line) = true := by rfl) :
    DE X W (.Call (.Attribute o "clear" ap) [] [] pos) (meth0M "list" f clrM) := de_meth00 rm_clear PySem.F.plainAttrs_list PySem.F.slot_list_clear PySem.F.type_list_clear mt_clear ho hbase hline
/-- isinstance(x, (A, B)) -/
def isa2M (A B : String) (d : D) : M D := fun s => match tyName s d with
  | some a => .ok (.bl (isaT A a || isaT B a)) s
  | none => .bad
end Fx

/-! Fx: defs that write cells of the caller, or hand back cells of their own -/
namespace Fx
open PySem PySem.Spec PyProof.Rows L2
variable {X : Cx} {W : WX}
abbrev Sf := List D → List Cell → Option (D × List Cell)
noncomputable def runS (n : Nat) (g : M Out) : Sf := fun ds vh => match g (initS n ds vh) with
  | .ok (.rt d) s => some (d, s.vh)
  | .ok .nx s => some (.non, s.vh)
  | _ => none
def SpS (K : PySem.W.Frag) (n : Nat) (F : Sf) : Sp := fun vs H Q _ => vs.length = n ∧ ∃ w σ s ds d vh, RS K w H σ s ∧ RepL K w vs ds ∧ F ds s.vh = some (d, vh) ∧ ∀ w' H' v, Le w H w' H' → RS K w' H' σ ⟨s.loc, vh⟩ → Rep K w' v d → Q v H'
theorem start_ok {K : PySem.W.Frag} {w : Wd} {H : Hp} {σ : L2.St} {z : S} {vs : List V} {ds : List D} {N : List Str} {ps : List Str} (R : RS K w H σ z) (rv : RepL K w vs ds) : RS K w H (start N vs) (initS N.length ds z.vh) := by
  have hdl := RepL.length rv
  refine R.other (l := ds.map some ++ List.replicate (N.length - ds.length) none) ?_ fun i d hi => ?_
  · show (vs.map some ++ List.replicate (N.length - vs.length) none).length = _
    simp only [List.length_append, List.length_map, List.length_replicate]
    rw [hdl]
  · by_cases hlt : i < ds.length
    · rw [List.getElem?_append_left (by rw [List.length_map]; exact hlt), List.getElem?_map] at hi
      cases h2 : ds[i]? with
      | none => rw [h2] at hi; cases hi
      | some d2 =>
        rw [h2] at hi; cases hi
        obtain ⟨v, h3, h4⟩ := RepL.get rv h2
        refine ⟨v, ?_, h4⟩
        show (vs.map some ++ _)[i]? = _
        rw [List.getElem?_append_left (by rw [List.length_map, hdl]; exact hlt), List.getElem?_map, h3]; rfl
    · rw [List.getElem?_append_right (by rw [List.length_map]; omega)] at hi
      have := List.mem_of_getElem? hi
      rw [List.mem_replicate] at this
      cases this.2
theorem fn_st {P : Program} {wd : World} {K : PySem.W.Frag} {mg : Str → Option Value} {base : Heap} {x qual : Str} {st : Stmt} {f : Addr} {fd : FuncData} {N ps : List Str} {k : Nat} {g : M Out} (F : Fun K x qual st f fd) (Sc : FnScope N ps (defScope st)) (hle : ps.length ≤ N.length)
    (body : ∀ (cdv : Value) (A : Around) (outer : List Env) (s : Shared) (H : Hp) (E : XK), Room k (A.deeper (envOfC qual (defScope st) s.heap.objs.size f cdv)) →
      DSs (cxOf CX0 P wd K mg base N qual (defScope st) f cdv A outer s H E).nox W0 (defBody st) g) : FnOk P wd K mg base CX0 (k + 1) f fd ps (SpS K ps.length (runS N.length g)) := by
  refine F.ok Sc (fun vs H Q E h => h.1) fun cdv A outer s H vs Q E hr h => ?_
  obtain ⟨t, p, r⟩ := body cdv A outer s H E hr
  obtain ⟨hl, w, σ, z, ds, d, vh, R, rv, e, q⟩ := h
  refine ⟨t, p, r w H _ (initS N.length ds z.vh) _ (start_ok (ps := ps) R rv) ?_⟩
  show PostS K W0 w H (g (initS N.length ds z.vh)) _
  unfold runS at e
  have fin_ok : ∀ {d0 : D} {s1 : S}, some (d0, s1.vh) = some (d, vh) → ∀ w' H' σ' v, Le w H w' H' → RS K w' H' σ' s1 → Rep K w' v d0 → Q v H' := fun {d0 s1} e w' H' σ' v l R' rv => by
    cases e
    refine q _ _ _ l (R'.other (l := z.loc) R.len fun i d hi => ?_) rv
    obtain ⟨v, h1, h2⟩ := R.loc i d hi
    exact ⟨v, h1, Rep.up l h2⟩
  cases hg : g (initS N.length ds z.vh) with
  | bad => rw [hg] at e; cases e
  | exc x s1 => rw [hg] at e; cases e
  | ok o s1 =>
    rw [hg] at e
    cases o with
    | brk => cases e
    | cnt => cases e
    | rt d0 => exact fun w' H' σ' v l R' rv => fin_ok e w' H' σ' v l R' rv
    | nx => exact fun w' H' σ' l R' => fin_ok e w' H' σ' .non l R' .non
structure FnS (P : Program) (wd : World) (K : PySem.W.Frag) (mg : Str → Option Value) (base : Heap) (x : Str) (n k : Nat) (F : Sf) : Prop where
  ex : ∃ (f : Addr) (fd : FuncData) (ps : List Str), ps.length = n ∧ mg x = some (.ref f) ∧ PySem.W.keepIn K (.ref f) = true ∧ Binds K fd ps [] ∧ FnOk P wd K mg base CX0 k f fd ps (SpS K n F)
theorem FnS.mono {P : Program} {wd : World} {K : PySem.W.Frag} {mg : Str → Option Value} {base : Heap} {x : Str} {n j k : Nat} {F : Sf} (h : FnS P wd K mg base x n j F) (l : j ≤ k) : FnS P wd K mg base x n k F :=
  let ⟨f, fd, ps, a, b, c, d, e⟩ := h.ex; ⟨f, fd, ps, a, b, c, d, e.mono l⟩
def callS (n : Nat) (F : Sf) (ds : List D) : M D := fun s => if ds.length = n then match F ds s.vh with
  | some (d, vh) => .ok d ⟨s.loc, vh⟩
  | none => .bad else .bad
theorem de_callS {x : Str} {n k : Nat} {F : Sf} {e : Expr} {es : List Expr} {fs : M (List D)} {p pos : Pos} (h : FnS X.prog X.w X.K X.mg X.base x n k F) (hr : Room k X.A) (ha : DA X W (e :: es) fs) (hg : Gl X x := by rfl) (hdb : (x == ("__debug__" : Str)) = false := by decide)
    (he : starEach (e :: es) X.env = (false, eval e X.env) :: starEach es X.env := by rfl) (hpl : (backTo pos (starEach es X.env)).any (·.1) = false := by rfl) : DE X W (.Call (.Name x p) (e :: es) [] pos) (bnd fs (callS n F)) := by
  obtain ⟨f, fd, ps, hps, hm, hk, hb, G⟩ := h.ex
  obtain ⟨t, q, r⟩ := ha
  refine ⟨_, pe_call G hr hg hm hk hb .nil pass0 q hdb he hpl, fun w H σ s Q R z => ?_⟩
  refine r.bnd R z fun ds s1 w1 H1 vs l1 R1 r1 p1 => ?_
  have p1 : Post X.K W (pD X.K) w1 H1 σ (if ds.length = n then match F ds s1.vh with
    | some (d, vh) => .ok d ⟨s1.loc, vh⟩
    | none => .bad else .bad) Q := p1
  by_cases hl : ds.length = n
  · rw [if_pos hl] at p1
    cases hF : F ds s1.vh with
    | none => rw [hF] at p1; exact p1.elim
    | some dv =>
      obtain ⟨d, vh⟩ := dv
      rw [hF] at p1
      refine ⟨?_, w1, σ, s1, ds, d, vh, R1, ?_, hF, fun w' H' v l R' r' => p1 w' H' v l R' r'⟩
      · rw [List.append_nil, RepL.length r1]; exact hl
      · rw [List.append_nil]; exact r1
  · rw [if_neg hl] at p1; exact p1.elim
end Fx
namespace Fx
open PySem PySem.Spec PyProof.Rows L2
theorem Top.fnS {P : Program} {wd : World} {K : PySem.W.Frag} {mg : Str → Option Value} {base : Heap} {x : Str} {st : Stmt} {N ps : List Str} {k : Nat} {g : M Out} (T : Top K mg x st ps) (Sc : FnScope N ps (defScope st)) (hle : ps.length ≤ N.length)
    (body : ∀ (f : Addr) (cdv : Value) (A : Around) (outer : List Env) (s : Shared) (H : Hp) (E : XK), Room k (A.deeper (envOfC x (defScope st) s.heap.objs.size f cdv)) →
      DSs (cxOf CX0 P wd K mg base N x (defScope st) f cdv A outer s H E).nox W0 (defBody st) g) : FnS P wd K mg base x ps.length (k + 1) (runS N.length g) :=
  let ⟨f, fd, F, m, b, _⟩ := T.ex
  ⟨f, fd, ps, rfl, m, F.kp, b, fn_st F Sc hle fun cdv A outer s H E hr => body f cdv A outer s H E hr⟩
/-- a def that is never called (the bottom of a recursion) -/
theorem Top.nil {P : Program} {wd : World} {K : PySem.W.Frag} {mg : Str → Option Value} {base : Heap} {x : Str} {st : Stmt} {ps : List Str} {k : Nat} (T : Top K mg x st ps) : FnP P wd K mg base x ps.length k (fun _ _ => none) :=
  let ⟨f, fd, F, m, b, _⟩ := T.ex
  ⟨f, fd, ps, rfl, m, F.kp, b, fun _ _ _ _ h => h.1, fun _ _ _ _ _ _ _ _ _ _ _ _ _ h => by obtain ⟨_, _, _, _, _, _, _, _, e, _⟩ := h; cases e⟩
theorem Top.nilS {P : Program} {wd : World} {K : PySem.W.Frag} {mg : Str → Option Value} {base : Heap} {x : Str} {st : Stmt} {ps : List Str} {k : Nat} (T : Top K mg x st ps) : FnS P wd K mg base x ps.length k (fun _ _ => none) :=
  let ⟨f, fd, F, m, b, _⟩ := T.ex
  ⟨f, fd, ps, rfl, m, F.kp, b, fun _ _ _ _ h => h.1, fun _ _ _ _ _ _ _ _ _ _ _ _ _ h => by obtain ⟨_, _, _, _, _, _, _, _, _, e, _⟩ := h; cases e⟩
end Fx

/-! Fx: isinstance(x, (A, B)), zip of two lists or of two tuples -/
namespace Fx
open PySem PySem.Spec PyProof.Rows L2
variable {X : Cx} {W : WX}
theorem kit_two {K : PySem.W.Frag} {a A B : String} (h1 : PySem.W.kitOne K (.type a) (.type A) = some (isaT A a)) (h2 : PySem.W.kitOne K (.type a) (.type B) = some (isaT B a)) : PySem.W.kitAny K (.type a) [.type A, .type B] = some (isaT A a || isaT B a) := by
  unfold PySem.W.kitAny
  rw [h1]
  cases isaT A a with
  | true => rfl
  | false =>
    dsimp only
    unfold PySem.W.kitAny
    rw [h2]
    cases isaT B a <;> rfl
theorem de_isa2 (A B : String) {e : Expr} {f : M D} {p pa pb tpos pos : Pos} {kk : Nat} (hi : X.mg "isinstance" = none) (hA : X.mg (Str.ofString A) = none) (hB : X.mg (Str.ofString B) = none) (h : DE X W e f) (hvA : bootBuiltins (Str.ofString A) = some (.type A)) (hvB : bootBuiltins (Str.ofString B) = some (.type B)) (hTA : A ∈ sixT := by decide) (hTB : B ∈ sixT := by decide)
    (hg : Gl X "isinstance" := by rfl) (hgA : Gl X (Str.ofString A) := by rfl) (hgB : Gl X (Str.ofString B) := by rfl)
    (hnA : Str.ofString A ≠ "__name__" := by decide) (hdA : (Str.ofString A == ("__debug__" : Str)) = false := by decide) (hnB : Str.ofString B ≠ "__name__" := by decide) (hdB : (Str.ofString B == ("__debug__" : Str)) = false := by decide)
    (hst : starEach [e, .Tuple [.Name (Str.ofString A) pa, .Name (Str.ofString B) pb] kk tpos] X.env = (false, eval e X.env) :: starEach [.Tuple [.Name (Str.ofString A) pa, .Name (Str.ofString B) pb] kk tpos] X.env := by rfl)
    (hst2 : starEach [.Tuple [.Name (Str.ofString A) pa, .Name (Str.ofString B) pb] kk tpos] X.env = (false, eval (.Tuple [.Name (Str.ofString A) pa, .Name (Str.ofString B) pb] kk tpos) X.env) :: starEach [] X.env := by rfl)
    (hst3 : starEach [.Name (Str.ofString A) pa, .Name (Str.ofString B) pb] X.env = (false, eval (.Name (Str.ofString A) pa) X.env) :: starEach [.Name (Str.ofString B) pb] X.env := by rfl) (hst4 : starEach [.Name (Str.ofString B) pb] X.env = (false, eval (.Name (Str.ofString B) pb) X.env) :: starEach [] X.env := by rfl)
    (hpl : (backTo pos (starEach [.Tuple [.Name (Str.ofString A) pa, .Name (Str.ofString B) pb] kk tpos] X.env)).any (·.1) = false := by rfl) :
    DE X W (.Call (.Name "isinstance" p) [e, .Tuple [.Name (Str.ofString A) pa, .Name (Str.ofString B) pb] kk tpos] [] pos) (bnd f (isa2M A B)) := by
  obtain ⟨t, q, k⟩ := h
  refine ⟨_, pe_callB call_isiT hg hi (by decide +kernel) (pa_cons q (pa_cons (pe_tup (pa_cons (pe_bltn (v := .ty A) hgA hA hvA rfl hnA hdA) (pa_cons (pe_bltn (v := .ty B) hgB hB hvB rfl hnB hdB) pa_nil hst4) hst3)) pa_nil hst2) hst) (by decide) (by decide) hst hpl, fun w H σ s Q R z => ?_⟩
  refine k.bnd R z fun d s1 w1 H1 v l1 R1 r1 p1 => ?_
  have p1 : Post X.K W (pD X.K) w1 H1 σ (match tyName s1 d with
    | some a => .ok (.bl (isaT A a || isaT B a)) s1
    | none => .bad) Q := p1
  cases ht : tyName s1 d with
  | none => rw [ht] at p1; exact p1.elim
  | some a =>
    rw [ht] at p1
    refine ⟨by show 2 ≤ sizeLine; decide, fun tp htp => ?_⟩
    have R2 : RS X.K w1 (upd H1 tp (.tup [.ty A, .ty B])) σ s1 := R1.laid htp
    refine ⟨v, tp, [.ty A, .ty B], .type a, [.type A, .type B], isaT A a || isaT B a, rfl, upd_same, .cons (.ty A) (.cons (.ty B) .nil), tyx_of R2 r1 ht, kit_two (kit_ty (kit_all A hTA a (tyName_in ht))) (kit_ty (kit_all B hTB a (tyName_in ht))), ?_⟩
    exact p1 w1 _ _ (Le.laid htp) R2 (Rep.bl _)
/-! zip -/
noncomputable def zipA : List D → M Wk
  | [a, b] => fun s => match lstOf s a, lstOf s b with
    | some xs, some ys => .ok ⟨List.zipWith D.pr xs ys, fun s' => lstOf s' a = some xs ∧ lstOf s' b = some ys⟩ s
    | _, _ => match tupOf a, tupOf b with
      | some xs, some ys => .ok ⟨List.zipWith D.pr xs ys, fun _ => True⟩ s
      | _, _ => .bad
  | _ => fun _ => .bad
theorem pI_zipT {K : PySem.W.Frag} {w0 : Wd} {a b : Addr} {d e : D} {xs ys : List D} (ra : Rep K w0 (.ref a) d) (rb : Rep K w0 (.ref b) e) (k1 : tupOf d = some xs) (k2 : tupOf e = some ys) : wkI K w0 (RZ.ItzT K a b) ⟨List.zipWith D.pr xs ys, fun _ => True⟩ := by
  intro w H σ s l R hok i
  obtain ⟨a', vs, e1, h1, h2⟩ := R.tuple (ra.upW l) k1
  cases e1
  obtain ⟨b', us, e2, h3, h4⟩ := R.tuple (rb.upW l) k2
  cases e2
  have hlen : (List.zipWith D.pr xs ys).length = min xs.length ys.length := List.length_zipWith
  refine ⟨fun hi => ?_, fun hi => ⟨vs, us, h1, h3, ?_⟩, fun x H' hy d' hd => ?_⟩
  · have hi : i < (List.zipWith D.pr xs ys).length := hi
    rw [hlen] at hi
    obtain ⟨v, hv, _⟩ := RepL.get h2 (List.getElem?_eq_getElem (show i < xs.length by omega))
    obtain ⟨u, hu, _⟩ := RepL.get h4 (List.getElem?_eq_getElem (show i < ys.length by omega))
    exact ⟨vs, us, v, u, h1, h3, hv, hu⟩
  · have hi : (List.zipWith D.pr xs ys).length ≤ i := hi
    rw [hlen] at hi
    rw [RepL.length h2, RepL.length h4]
    omega
  · obtain ⟨T, x1, y1, rfl, nT, rfl, f1, f2⟩ := hy
    have hd : (List.zipWith D.pr xs ys)[i]? = some d' := hd
    obtain ⟨v1, hv1⟩ : ∃ v, xs[i]? = some v := by
      have := (List.getElem?_eq_some_iff.mp hd).1
      rw [hlen] at this
      exact ⟨_, List.getElem?_eq_getElem (show i < xs.length by omega)⟩
    obtain ⟨v2, hv2⟩ : ∃ v, ys[i]? = some v := by
      have := (List.getElem?_eq_some_iff.mp hd).1
      rw [hlen] at this
      exact ⟨_, List.getElem?_eq_getElem (show i < ys.length by omega)⟩
    rw [List.getElem?_zipWith, hv1, hv2] at hd
    cases hd
    obtain ⟨u1, hu1, r1⟩ := RepL.get h2 hv1
    obtain ⟨u2, hu2, r2⟩ := RepL.get h4 hv2
    have e1 := f1 vs h1
    have e2 := f2 us h3
    rw [hu1] at e1; cases e1
    rw [hu2] at e2; cases e2
    obtain ⟨l2, R2, r⟩ := R.newP nT r1 r2
    exact ⟨_, l2, R2, r⟩
theorem di_zipA {es : List Expr} {kk : Nat} {tpos : Pos} {a b : Expr} {f : M (List D)} {p pos : Pos} (hm : X.mg "zip" = none) (h : DA X W [a, b] f) (hg : Gl X "zip" := by rfl)
    (hs : starEach [a, b] X.env = (false, eval a X.env) :: starEach [b] X.env := by rfl) (hpl : (backTo pos (starEach [b] X.env)).any (·.1) = false := by rfl) :
    DI X W (.Tuple es kk tpos) (.Call (.Name "zip" p) [a, b] [] pos) (bnd f zipA) := by
  obtain ⟨t, q, r⟩ := h
  refine ⟨_, RZ.pi_zipA hg hm q hs hpl, fun w H σ s R0 R z => ?_⟩
  refine r.bnd R z fun ds s1 w1 H1 vs l1 R1 r1 p1 => ?_
  cases r1 with
  | nil => exact p1.elim
  | cons h t =>
    cases t with
    | nil => exact p1.elim
    | cons h2 t2 =>
      cases t2 with
      | cons _ _ => exact p1.elim
      | nil =>
        unfold zipA at p1
        dsimp only at p1
        split at p1
        · next xs ys hx hy =>
          obtain ⟨a', vs, e1, q1, q2⟩ := R1.list h hx
          subst e1
          obtain ⟨b', us, e2, q3, q4⟩ := R1.list h2 hy
          subst e2
          exact ⟨a', b', vs, us, rfl, .inl ⟨q1, q3, p1 w1 H1 _ (Le.refl _ _) R1 (pI_zip h h2)⟩⟩
        · split at p1
          · next xs ys hx hy =>
            obtain ⟨a', vs, e1, q1, q2⟩ := R1.tuple h hx
            subst e1
            obtain ⟨b', us, e2, q3, q4⟩ := R1.tuple h2 hy
            subst e2
            exact ⟨a', b', vs, us, rfl, .inr ⟨q1, q3, p1 w1 H1 _ (Le.refl _ _) R1 (pI_zipT h h2 hx hy)⟩⟩
          · exact p1.elim
end Fx

/-! the equations by which a printed text is reckoned -/
namespace Fx
open PySem PySem.Spec PyProof.Rows L2
/-- an equation that simp is to use as a step of its own -/
theorem nr {α : Sort _} {a b : α} (h : a = b) : a = b := h
theorem runP_of {n : Nat} {g : M Out} {ds : List D} {vh : List Cell} {d : D} (h : ∃ l, g (initS n ds vh) = .ok (.rt d) ⟨l, vh⟩) (hn : nc vh.length d = true) : runP n g ds vh = some d := by
  obtain ⟨l, h⟩ := h
  unfold runP
  rw [h]
  show fin vh ⟨l, vh⟩ d = some d
  unfold fin
  rw [if_pos (by exact List.take_length)]
  unfold thaw
  rw [if_pos hn]
/-- a list that was made cell by cell is handed back -/
theorem runP_cell {n : Nat} {g : M Out} {ds : List D} {vh more : List Cell} {es : List D} {k : Nat} (h : ∃ l, g (initS n ds vh) = .ok (.rt (.cell (vh.length + k))) ⟨l, vh ++ more⟩) (hk : more[k]? = some (.lst es)) (hn : ncL vh.length es = true) : runP n g ds vh = some (.lst es) := by
  obtain ⟨l, h⟩ := h
  have hm : ∀ es : List D, ncL vh.length es = true → mapO (thaw (vh ++ more) vh.length 7) es = some es := fun es => by
    induction es with
    | nil => intro _; rfl
    | cons x xs ih =>
      intro h
      have h : (nc vh.length x && ncL vh.length xs) = true := h
      rw [Bool.and_eq_true] at h
      unfold mapO
      rw [ih h.2]
      have : thaw (vh ++ more) vh.length 7 x = some x := by unfold thaw; rw [if_pos h.1]
      rw [this]
  unfold runP
  rw [h]
  show fin vh ⟨l, vh ++ more⟩ _ = _
  unfold fin
  rw [if_pos (by show (vh ++ more).take vh.length = vh; exact List.take_left)]
  unfold thaw
  rw [if_neg (by simp [nc])]
  show (match (vh ++ more)[vh.length + k]? with | some (.lst ds) => (mapO (thaw (vh ++ more) vh.length 7) ds).map D.lst | _ => none) = _
  rw [List.getElem?_append_right (by omega), Nat.add_sub_cancel_left, hk]
  show (mapO (thaw (vh ++ more) vh.length 7) es).map D.lst = _
  rw [hm es hn]; rfl
def Res.then' {α β : Type} (r : Res α) (k : α → M β) : Res β := match r with
  | .ok a s => k a s
  | .exc e s => .exc e s
  | .bad => .bad
def Res.andThen (r : Res Out) (q : M Out) : Res Out := match r with
  | .ok .nx s' => q s'
  | r => r
section
variable {α β : Type}
theorem x_bnd {m : M α} {k : α → M β} {s : S} : bnd m k s = (m s).then' k := nr rfl
theorem x_ok {a : α} {s : S} {k : α → M β} : (Res.ok a s).then' k = k a s := nr rfl
theorem x_ret {a : α} {s : S} : ret a s = .ok a s := nr rfl
theorem x_fail {s : S} : (fail : M α) s = .bad := nr rfl
theorem x_ite {c : Prop} [Decidable c] {a b : Res α} {k : α → M β} : (if c then a else b).then' k = if c then a.then' k else b.then' k := by split <;> rfl
theorem x_iteM {c : Prop} [Decidable c] {a b : M α} {s : S} : (if c then a else b) s = if c then a s else b s := by split <;> rfl
theorem x_bad {k : α → M β} : (Res.bad : Res α).then' k = .bad := nr rfl
end
def look (o : Option (Option D)) (s : S) : Res D := match o with
  | some (some d) => .ok d s
  | _ => .bad
theorem x_get {i : Nat} {s : S} : getL i s = look s.loc[i]? s := nr rfl
theorem x_look {d : D} {s : S} : look (some (some d)) s = .ok d s := nr rfl
theorem x_set {i : Nat} {s : S} {d : D} : setL i d s = .ok .nx ⟨s.loc.set i (some d), s.vh⟩ := nr rfl
theorem x_seq {p q : M Out} {s : S} : seqM p q s = (p s).andThen q := by unfold seqM Res.andThen; rfl
theorem x_nx {s : S} {q : M Out} : (Res.ok Out.nx s).andThen q = q s := nr rfl
theorem x_rt {d : D} {s : S} {q : M Out} : (Res.ok (Out.rt d) s).andThen q = .ok (.rt d) s := nr rfl
theorem x_brk {s : S} {q : M Out} : (Res.ok Out.brk s).andThen q = .ok .brk s := nr rfl
theorem x_cnt {s : S} {q : M Out} : (Res.ok Out.cnt s).andThen q = .ok .cnt s := nr rfl
theorem x_bad2 {q : M Out} : (Res.bad : Res Out).andThen q = .bad := nr rfl
theorem x_ite2 {c : Prop} [Decidable c] {a b : Res Out} {q : M Out} : (if c then a else b).andThen q = if c then a.andThen q else b.andThen q := by split <;> rfl
theorem x_asg {p : M D} {t : D → M Out} {s : S} : asgM p t s = (p s).then' t := nr rfl
theorem x_retM {p : M D} {s : S} : retM p s = (p s).then' fun d => ret (.rt d) := nr rfl
theorem x_drop {p : M D} {s : S} : dropM p s = (p s).then' fun _ => ret .nx := nr rfl
theorem x_if {c : M Bool} {p q : M Out} {s : S} : ifM c p q s = (c s).then' fun b => if b = true then p else q := nr rfl
theorem x_itM {c : M Bool} {p q : M D} {s : S} : iteM c p q s = (c s).then' fun b => if b = true then p else q := nr rfl
theorem x_asB {b : Bool} {s : S} : asB (.bl b) s = .ok b s := nr rfl
theorem x_bin {op : D → D → M D} {a b : M D} {s : S} : bin op a b s = (a s).then' fun d => bnd b fun e => op d e := nr rfl
theorem x_tst {a : M D} {s : S} : tst a s = (a s).then' asB := nr rfl
theorem x_and {p q : M D} {s : S} : andV p q s = (p s).then' fun d => bnd (asB d) fun c => if c = true then q else ret (.bl false) := nr rfl
theorem x_or {p q : M D} {s : S} : orV p q s = (p s).then' fun d => bnd (asB d) fun c => if c = true then ret (.bl true) else q := nr rfl
theorem x_not {p : M D} {s : S} : notV p s = (p s).then' fun d => bnd (asB d) fun c => ret (.bl (!c)) := nr rfl
theorem x_andT {p q : M Bool} {s : S} : andT p q s = (p s).then' fun c => if c = true then q else ret false := nr rfl
theorem x_orT {p q : M Bool} {s : S} : orT p q s = (p s).then' fun c => if c = true then ret true else q := nr rfl
theorem x_notT {p : M Bool} {s : S} : notT p s = (p s).then' fun c => ret (!c) := nr rfl
theorem x_cons {p : M D} {q : M (List D)} {s : S} : consM p q s = (p s).then' fun d => bnd q fun ds => ret (d :: ds) := nr rfl
def callR (o : Option D) (s : S) : Res D := match o with
  | some d => .ok d s
  | none => .bad
theorem x_call {n : Nat} {F : Pf} {ds : List D} {s : S} : callP n F ds s = if ds.length = n then callR (F ds s.vh) s else .bad := nr rfl
theorem x_callR {d : D} {s : S} : callR (some d) s = .ok d s := nr rfl
theorem x_isa {T : String} {d : D} {s : S} : isaM T d s = match tyName s d with | some a => .ok (.bl (isaT T a)) s | none => .bad := nr rfl
theorem x_sub {i j : Int} {s : S} : subM (.int i) (.int j) s = .ok (.int (i - j)) s := nr rfl
theorem x_add {i j : Int} {s : S} : addM (.int i) (.int j) s = .ok (.int (i + j)) s := nr rfl
theorem x_addS {i j : Str} {s : S} : addM (.str i) (.str j) s = if lenOk (i.length + j.length) = true then .ok (.str (i ++ j)) s else .bad := by
  show (if lenOk (i.length + j.length) = true then ret (D.str (i ++ j)) else fail) s = _
  split <;> rfl
theorem x_mod {i j : Int} {s : S} (h : 0 < j) : modM (.int i) (.int j) s = .ok (.int (i % j)) s := by
  show (if decide (0 < j) = true then ret _ else fail) s = _
  rw [if_pos (decide_eq_true h)]; rfl
theorem x_div {i j : Int} {s : S} (h : 0 < j) (h2 : j.natAbs.log2 < 9000) : divM (.int i) (.int j) s = .ok (.int (i / j)) s := by
  show (if (decide (0 < j) && decide (j.natAbs.log2 < 9000)) = true then ret _ else fail) s = _
  rw [if_pos (by rw [decide_eq_true h, decide_eq_true h2]; rfl)]; rfl
theorem x_mul {i j : Int} {s : S} (h : i.natAbs.log2 + j.natAbs.log2 < 100000000) : mulM (.int i) (.int j) s = .ok (.int (i * j)) s := by
  show (if decide (i.natAbs.log2 + j.natAbs.log2 < 100000000) = true then ret _ else fail) s = _
  rw [if_pos (decide_eq_true h)]; rfl
theorem x_pow {i j : Int} {s : S} (h : 0 ≤ j) (h2 : j ≤ 1000000) (h3 : i.natAbs < 2 ^ 64) : powM (.int i) (.int j) s = .ok (.int (i ^ j.toNat)) s := by
  show (if (decide (0 ≤ j) && (decide (j ≤ 1000000) && decide (i.natAbs < 2 ^ 64))) = true then ret _ else fail) s = _
  rw [if_pos (by rw [decide_eq_true h, decide_eq_true h2, decide_eq_true h3]; rfl)]; rfl
theorem x_shr {i j : Int} {s : S} (h : 0 ≤ j) : shrM (.int i) (.int j) s = .ok (.int (i / 2 ^ j.toNat)) s := by
  show (if decide (0 ≤ j) = true then ret _ else fail) s = _
  rw [if_pos (decide_eq_true h)]; rfl
theorem x_shl {i j : Int} {s : S} (h : 0 ≤ j) (h2 : j ≤ 1000000) (h3 : i.natAbs < 2 ^ 64) : shlM (.int i) (.int j) s = .ok (.int (i * 2 ^ j.toNat)) s := by
  show (if (decide (0 ≤ j) && (decide (j ≤ 1000000) && decide (i.natAbs < 2 ^ 64))) = true then ret _ else fail) s = _
  rw [if_pos (by rw [decide_eq_true h, decide_eq_true h2, decide_eq_true h3]; rfl)]; rfl
theorem x_xor {i j : Int} {s : S} : xorM (.int i) (.int j) s = .ok (.int (Builtin.bitXor i j)) s := nr rfl
theorem x_band {i j : Int} {s : S} : andM (.int i) (.int j) s = .ok (.int (Builtin.bitAnd i j)) s := nr rfl
theorem x_lt {i j : Int} {s : S} : ltAM (.int i) (.int j) s = .ok (.bl (decide (i < j))) s := nr rfl
theorem x_ltS {i j : Str} {s : S} : ltAM (.str i) (.str j) s = .ok (.bl (decide (i.cps.toList < j.cps.toList))) s := nr rfl
theorem x_le {i j : Int} {s : S} : leM (.int i) (.int j) s = .ok (.bl (decide (i ≤ j))) s := nr rfl
theorem x_gt {i j : Int} {s : S} : gtM (.int i) (.int j) s = .ok (.bl (decide (j < i))) s := nr rfl
theorem x_ge {i j : Int} {s : S} : geM (.int i) (.int j) s = .ok (.bl (decide (j ≤ i))) s := nr rfl
theorem x_eqI {i j : Int} {s : S} : eqM (.int i) (.int j) s = .ok (.bl (decide (i = j))) s := by
  show (if (SeqAt.shaped (PyData.int i) && SeqAt.shaped (PyData.int j)) = true then Res.ok (D.bl (PyData.eqv (.int i) (.int j))) s else .bad) = _
  rw [if_pos (by rfl)]
  simp [PyData.eqv, Bool.beq_eq_decide_eq]
theorem x_neI {i j : Int} {s : S} : neM (.int i) (.int j) s = .ok (.bl (!decide (i = j))) s := by
  show (if (SeqAt.shaped (PyData.int i) && SeqAt.shaped (PyData.int j)) = true then Res.ok (D.bl (!PyData.eqv (.int i) (.int j))) s else .bad) = _
  rw [if_pos (by rfl)]
  simp [PyData.eqv, Bool.beq_eq_decide_eq]
theorem x_true {α : Sort _} {a b : α} : (if true = true then a else b) = a := nr rfl
theorem x_false {α : Sort _} {a b : α} : (if false = true then a else b) = b := nr rfl
theorem x_aug {f : Int → Int → Int} {i : Nat} {p : M D} {s : S} : augI f i p s = (getL i s).then' fun a => bnd p fun b => augF f i a b := nr rfl
theorem x_augF {f : Int → Int → Int} {i : Nat} {x y : Int} {s : S} : augF f i (.int x) (.int y) s = .ok .nx ⟨s.loc.set i (some (.int (f x y))), s.vh⟩ := nr rfl
theorem x_forM {f : M Wk} {t : D → M Out} {b : M Out} {s : S} : forM f t b s = (f s).then' fun it => loopM it.ok t b it.items := nr rfl
theorem x_ran1 {n : Int} {s : S} (h : okB n = true) : ran1I [.int n] s = .ok ⟨ranD 0 n.toNat, fun _ => True⟩ s := by
  show (if okB n = true then _ else _) = _
  rw [if_pos h]
theorem x_ran2 {lo n : Int} {s : S} (h : okB lo = true) (h2 : okB n = true) : ran2I [.int lo, .int n] s = .ok ⟨ranD lo (n - lo).toNat, fun _ => True⟩ s := by
  show (if (okB lo && okB n) = true then _ else _) = _
  rw [if_pos (by rw [h, h2]; rfl)]
theorem okB_of {i : Int} (h : -(2 ^ 62) ≤ i) (h2 : i < 2 ^ 62) : okB i = true := by
  unfold okB
  rw [decide_eq_true h, decide_eq_true h2]; rfl
theorem x_seqL {ds : List D} {s : S} : seqI (.lst ds) s = .ok ⟨ds, fun s' => itemsOf s' (.lst ds) = some ds⟩ s := nr rfl
theorem x_seqT {ds : List D} {s : S} : seqI (.tup ds) s = .ok ⟨ds, fun s' => itemsOf s' (.tup ds) = some ds⟩ s := nr rfl
theorem x_seqS {x : Str} {s : S} : seqI (.str x) s = .ok ⟨signs x, fun s' => itemsOf s' (.str x) = some (signs x)⟩ s := nr rfl
theorem x_frz {m : M Cell} {s : S} : frzM m s = (m s).then' fun c => match c with | .lst ds => ret (.lst ds) | _ => fail := nr rfl
theorem x_own {m : M Cell} {s : S} : ownM m s = (m s).then' fun c s => .ok (.cell s.vh.length) ⟨s.loc, s.vh ++ [c]⟩ := nr rfl
theorem lenOk_of {n : Nat} (h : n ≤ 16777216) : lenOk n = true := decide_eq_true (Nat.le_trans h (by decide))
theorem x_lst {q : M (List D)} {s : S} : lstN q s = (q s).then' fun ds => if lenOk ds.length = true then ret (.lst ds) else fail := nr rfl
theorem x_tup {q : M (List D)} {s : S} : tupM q s = (q s).then' fun ds => if lenOk ds.length = true then ret (.tup ds) else fail := nr rfl
theorem x_lenL {ds : List D} {s : S} : lenM [.lst ds] s = .ok (.int ds.length) s := nr rfl
theorem x_lenT {ds : List D} {s : S} : lenM [.tup ds] s = .ok (.int ds.length) s := nr rfl
theorem x_lenS {x : Str} {s : S} (h : lenOk x.length = true) : lenM [.str x] s = .ok (.int x.length) s := by
  show (if lenOk x.length = true then _ else _) = _
  rw [if_pos h]
def Res.opt {α : Type} (o : Option α) (s : S) : Res α := match o with
  | some y => .ok y s
  | none => .bad
theorem x_opt {α : Type} {y : α} {s : S} : Res.opt (some y) s = .ok y s := nr rfl
theorem x_ixL {ds : List D} {i : Int} {s : S} : ixM (.lst ds) (.int i) s = Res.opt (atI ds i) s := by cases h : atI ds i <;> simp [ixM, lstOf, Res.opt, h]
theorem x_ixT {ds : List D} {i : Int} {s : S} : ixM (.tup ds) (.int i) s = Res.opt (atI ds i) s := by cases h : atI ds i <;> simp [ixM, Res.opt, h]
theorem x_slL {f : M D} {lo hi : M (Option Int)} {s : S} : slL f lo hi s = (f s).then' fun d => bnd lo fun l => bnd hi fun u => fun s => match lstOf s d with | some ds => .ok (.lst (cutD ds l u)) s | none => .bad := nr rfl
theorem x_slM {f : M D} {lo hi : M (Option Int)} {s : S} : slM f lo hi s = (f s).then' fun d => bnd lo fun l => bnd hi fun u => slV d l u := nr rfl
theorem x_slVL {ds : List D} {l u : Option Int} {s : S} : slV (.lst ds) l u s = .ok (.lst (cutD ds l u)) s := nr rfl
theorem x_slVS {x : Str} {l u : Option Int} {s : S} : slV (.str x) l u s = if lenOk x.length = true then .ok (.str (cutS x l u)) s else .bad := nr rfl
theorem x_min2 {i j : Int} {s : S} : min2M [.int i, .int j] s = .ok (.int (if j < i then j else i)) s := nr rfl
theorem x_max2 {i j : Int} {s : S} : max2M [.int i, .int j] s = .ok (.int (if j > i then j else i)) s := nr rfl
theorem x_abs {i : Int} {s : S} : absM [.int i] s = .ok (.int (if i < 0 then -i else i)) s := nr rfl
theorem x_neg {i : Int} {s : S} : negM (.int i) s = .ok (.int (-i)) s := nr rfl
theorem x_part {f : M D} {s : S} : partM f s = (f s).then' fun d => match d with | .int i => ret (some i) | _ => fail := nr rfl
/-! comprehensions, loops -/
/-- every turn gives v d and leaves the cells -/
theorem lc_map {ok : S → Prop} {i : Nat} {c : M Bool} {e : M D} {l0 l : List (Option D)} {vh : List Cell} {q : D → Bool} {v : D → D} (hok : ∀ l, ok ⟨l, vh⟩) : ∀ (ds acc : List D), (acc.length + ds.length ≤ 16777216) →
    (∀ d ∈ ds, ∃ l1, c ⟨l0.set i (some d), vh⟩ = .ok (q d) ⟨l1, vh⟩ ∧ (q d = true → ∃ l2, e ⟨l1, vh⟩ = .ok (v d) ⟨l2, vh⟩)) →
    lcLoop ok i c e l0 l ds acc ⟨l0, vh⟩ = .ok (.lst (acc ++ (ds.filter q).map v)) ⟨l, vh⟩
  | [], acc, _, _ => by
    unfold lcLoop
    rw [if_pos (hok l0)]
    simp
  | d :: ds, acc, hl, h => by
    obtain ⟨l1, h1, h2⟩ := h d (List.mem_cons_self)
    have hlen : acc.length < sizeLine := Nat.lt_of_lt_of_le (show acc.length < 16777216 by simp at hl; omega) (by decide)
    unfold lcLoop
    rw [if_pos ⟨hok l0, hlen⟩]
    cases hq : q d with
    | false =>
      rw [hq] at h1
      have e1 : c { (⟨l0, vh⟩ : S) with loc := l0.set i (some d) } = .ok false ⟨l1, vh⟩ := h1
      rw [e1]
      have := lc_map (l := l) hok ds acc (by simp at hl; omega) (fun d' hd => h d' (List.mem_cons_of_mem _ hd))
      rw [List.filter_cons, if_neg (by rw [hq]; decide)]
      exact this
    | true =>
      rw [hq] at h1
      obtain ⟨l2, h3⟩ := h2 hq
      have e1 : c { (⟨l0, vh⟩ : S) with loc := l0.set i (some d) } = .ok true ⟨l1, vh⟩ := h1
      rw [e1]
      dsimp only
      rw [h3]
      have := lc_map (l := l) hok ds (acc ++ [v d]) (by simp at hl ⊢; omega) (fun d' hd => h d' (List.mem_cons_of_mem _ hd))
      rw [List.filter_cons, if_pos hq, List.map_cons]
      simpa using this
theorem lcM_map {f : M Wk} {i : Nat} {c : M Bool} {e : M D} {l : List (Option D)} {vh : List Cell} {items : List D} {ok : S → Prop} {q : D → Bool} {v : D → D} (hf : f ⟨l, vh⟩ = .ok ⟨items, ok⟩ ⟨l, vh⟩) (hok : ∀ l, ok ⟨l, vh⟩) (hl : items.length ≤ 16777216)
    (h : ∀ d ∈ items, ∃ l1, c ⟨(l.set i none).set i (some d), vh⟩ = .ok (q d) ⟨l1, vh⟩ ∧ (q d = true → ∃ l2, e ⟨l1, vh⟩ = .ok (v d) ⟨l2, vh⟩)) : lcM f i c e ⟨l, vh⟩ = .ok (.lst ((items.filter q).map v)) ⟨l, vh⟩ := by
  unfold lcM
  rw [bnd_ok hf]
  have := lc_map (l := l) hok items [] (by simpa using hl) h
  simpa using this
/-- without a test -/
theorem lcM_all {f : M Wk} {i : Nat} {e : M D} {l : List (Option D)} {vh : List Cell} {items : List D} {ok : S → Prop} {v : D → D} (hf : f ⟨l, vh⟩ = .ok ⟨items, ok⟩ ⟨l, vh⟩) (hok : ∀ l, ok ⟨l, vh⟩) (hl : items.length ≤ 16777216)
    (h : ∀ d ∈ items, ∃ l2, e ⟨(l.set i none).set i (some d), vh⟩ = .ok (v d) ⟨l2, vh⟩) : lcM f i yesM e ⟨l, vh⟩ = .ok (.lst (items.map v)) ⟨l, vh⟩ := by
  have := lcM_map (c := yesM) (q := fun _ => true) (v := v) hf hok hl fun d hd => ⟨_, rfl, fun _ => h d hd⟩
  rw [this, List.filter_eq_self.mpr (fun _ _ => rfl)]
/-- a for loop by what holds between its turns; it may leave by a return where Pv says so -/
theorem loopM_all {ok : S → Prop} {t : D → M Out} {b : M Out} (Pv : Nat → S → Prop) (items : List D) (hok : ∀ i s, Pv i s → ok s)
    (hs : ∀ (i : Nat) d s, items[i]? = some d → Pv i s → ∃ s1, t d s = .ok .nx s1 ∧ ∃ s2, (b s1 = .ok .nx s2 ∨ b s1 = .ok .cnt s2) ∧ Pv (i + 1) s2) : ∀ (k : Nat) s, k ≤ items.length → Pv k s → ∃ s2, loopM ok t b (items.drop k) s = .ok .nx s2 ∧ Pv items.length s2 := by
  intro k s hk hp
  generalize hm : items.length - k = m
  induction m generalizing k s with
  | zero =>
    have e : k = items.length := by omega
    subst e
    refine ⟨s, ?_, hp⟩
    rw [List.drop_length]
    unfold loopM
    rw [if_pos (hok _ _ hp)]
  | succ m ih =>
    have hlt : k < items.length := by omega
    obtain ⟨s1, h1, s2, h2, h3⟩ := hs k items[k] s (List.getElem?_eq_getElem hlt) hp
    obtain ⟨s3, h4, h5⟩ := ih (k + 1) s2 (by omega) h3 (by omega)
    refine ⟨s3, ?_, h5⟩
    rw [List.drop_eq_getElem_cons hlt]
    unfold loopM
    rw [if_pos (hok _ _ hp), h1]
    dsimp only
    rcases h2 with h2 | h2 <;> rw [h2] <;> exact h4
/-- a while by a measure -/
theorem whileM_all {c : M Bool} {b : M Out} (Pv : S → Prop) (μ : S → Nat) (hs : ∀ s, Pv s → (∃ s1, c s = .ok true s1 ∧ ∃ s2, (b s1 = .ok .nx s2 ∨ b s1 = .ok .cnt s2) ∧ Pv s2 ∧ μ s2 < μ s) ∨ ∃ s1, c s = .ok false s1 ∧ Pv s1 ∧ c s1 = .ok false s1) :
    ∀ (n : Nat) s, Pv s → μ s < n → ∃ s2 s3, whileM c b n s = .ok .nx s2 ∧ Pv s2 ∧ c s3 = .ok false s2 := by
  intro n
  induction n with
  | zero => intro s _ h; omega
  | succ n ih =>
    intro s hp hm
    rcases hs s hp with ⟨s1, h1, s2, h2, h3, h4⟩ | ⟨s1, h1, h2, h3⟩
    · obtain ⟨s3, s4, h5, h6, h7⟩ := ih s2 h3 (by omega)
      refine ⟨s3, s4, ?_, h6, h7⟩
      unfold whileM
      rw [h1]
      dsimp only
      rcases h2 with h2 | h2 <;> rw [h2] <;> exact h5
    · refine ⟨s1, s, ?_, h2, h1⟩
      unfold whileM
      rw [h1]
end Fx
namespace Fx
open PySem PySem.Spec PyProof.Rows L2
theorem atI_ofNat {α : Type} {xs : List α} {i : Nat} (h : i < xs.length) : atI xs (i : Int) = xs[i]? := by
  unfold atI ixN
  rw [if_pos (by omega), if_pos (by omega)]
  simp
theorem log2_of {x : Int} {k : Nat} (h0 : 0 < k) (h : x.natAbs < 2 ^ k) : x.natAbs.log2 < k := PySem.Flt.log2_lt_of h0 h
theorem cut_all {xs : List D} {k : Int} {n : Nat} (hk : k = (n : Int)) : cutD xs none (some k) = xs.take n := by
  subst hk
  unfold cutD
  rw [HT.sIx_none, show HT.sIx xs.length xs.length (some (n : Int)) = min n xs.length from HT.sIx_nat xs.length xs.length n]
  rw [List.drop_zero, Nat.sub_zero]
  by_cases h : n ≤ xs.length
  · rw [Nat.min_eq_left h]
  · rw [Nat.min_eq_right (by omega), List.take_of_length_le (by omega), List.take_of_length_le (by omega)]
/-- an int turned by f -/
def onI (f : Int → Int) : D → D
  | .int i => .int (f i)
  | d => d
theorem onI_int (f : Int → Int) (n : Int) : onI f (.int n) = .int (f n) := rfl
theorem onI_map (f : Int → Int) (ns : List Int) : (ns.map D.int).map (onI f) = (ns.map f).map D.int := by
  rw [List.map_map, List.map_map]; rfl
theorem mem_ints {ns : List Int} {d : D} (h : d ∈ ns.map D.int) : ∃ n, n ∈ ns ∧ d = .int n := by
  obtain ⟨n, a, b⟩ := List.mem_map.mp h
  exact ⟨n, a, b.symm⟩
theorem x_catL {xs ys : List D} {s : S} (h : lenOk (xs.length + ys.length) = true) : addM (.lst xs) (.lst ys) s = .ok (.lst (xs ++ ys)) s := by
  show (if lenOk (xs.length + ys.length) = true then _ else _) = _
  rw [if_pos h]
theorem at_ints {ns : List Int} {i : Nat} (h : i < ns.length) : atI (ns.map D.int) (i : Int) = some (.int ns[i]) := by
  rw [atI_ofNat (by rw [List.length_map]; exact h), List.getElem?_map, List.getElem?_eq_getElem h]; rfl
theorem ranD_at {lo : Int} {n i : Nat} {d : D} (h : (ranD lo n)[i]? = some d) : i < n ∧ d = .int (lo + (i : Int)) := by
  have hi : i < n := by
    have := (List.getElem?_eq_some_iff.mp h).1
    rw [ranD_len] at this; exact this
  rw [ranD_get hi] at h
  cases h
  exact ⟨hi, rfl⟩
/-- the whole loop -/
theorem loopM_run {ok : S → Prop} {t : D → M Out} {b : M Out} (Pv : Nat → S → Prop) (items : List D) (s : S) (hok : ∀ i s, Pv i s → ok s)
    (hs : ∀ (i : Nat) d s, items[i]? = some d → Pv i s → ∃ s1, t d s = .ok .nx s1 ∧ ∃ s2, (b s1 = .ok .nx s2 ∨ b s1 = .ok .cnt s2) ∧ Pv (i + 1) s2) (h0 : Pv 0 s) : ∃ s2, loopM ok t b items s = .ok .nx s2 ∧ Pv items.length s2 :=
  loopM_all Pv items hok hs 0 s (Nat.zero_le _) h0
end Fx

/-! texts by their codes, plain values -/
namespace Fx
open PySem PySem.Spec PyProof.Rows L2 TL
/-- the text of these codes -/
def tx (cs : List Nat) : Str := ⟨cs.toArray⟩
theorem tx_len (cs : List Nat) : (tx cs).length = cs.length := by
  show cs.toArray.size = cs.length
  exact List.size_toArray
theorem tx_tl (cs : List Nat) : (tx cs).cps.toList = cs := by
  show cs.toArray.toList = cs
  simp
theorem tx_of (x : Str) : tx x.cps.toList = x := by
  cases x
  simp [tx]
theorem tx_app (a b : List Nat) : tx a ++ tx b = tx (a ++ b) := by
  have h : tl (tx a ++ tx b) = tl (tx a) ++ tl (tx b) := tl_append _ _
  rw [show tl (tx a) = a from tx_tl a, show tl (tx b) = b from tx_tl b] at h
  rw [← tx_of (tx a ++ tx b)]
  show tx (tl (tx a ++ tx b)) = _
  rw [h]
theorem tx_inj {a b : List Nat} (h : tx a = tx b) : a = b := by
  have := congrArg (fun x : Str => x.cps.toList) h
  simpa [tx_tl] using this
theorem tx_one (c : Nat) : (⟨#[c]⟩ : Str) = tx [c] := rfl
theorem tx_nil : Str.ofString "" = tx [] := by decide +kernel
theorem joinL_nil : ∀ ps : List (List Nat), joinL [] ps = ps.flatten
  | [] => rfl
  | [p] => by simp [joinL]
  | p :: q :: r => by
    show p ++ ([] ++ joinL [] (q :: r)) = _
    rw [joinL_nil (q :: r)]
    simp
theorem flat_one (cs : List Nat) : (cs.map fun c => [c]).flatten = cs := by
  induction cs with
  | nil => rfl
  | cons c r ih => simp [ih]
theorem join_tx (ps : List (List Nat)) : Txt.join (tx []) (ps.map tx) = tx ps.flatten := by
  rw [join_eq, ← tx_of (Str.join _ _)]
  show tx (tl (Str.join (tx []) (ps.map tx))) = _
  rw [tl_join, show tl (tx []) = [] from tx_tl [], joinL_nil, List.map_map]
  congr 1
  congr 1
  rw [show (tl ∘ tx) = id from funext fun cs => tx_tl cs, List.map_id]
theorem strsOf_map : ∀ ps : List (List Nat), strsOf (ps.map fun p => D.str (tx p)) = some (ps.map tx)
  | [] => rfl
  | p :: r => by
    show (strsOf (r.map fun p => D.str (tx p))).map (tx p :: ·) = _
    rw [strsOf_map r]; rfl
/-- joined without a sign between -/
theorem x_join {f g : M D} {s : S} : jnM f g s = (f s).then' fun d s => match d with | .str a => bnd g (fun e => joinM (.str a) [e]) s | _ => .bad := nr rfl
theorem join_ok (ps : List (List Nat)) (s : S) (h : (ps.map List.length).sum ≤ 16777216) : joinM (.str (tx [])) [.lst (ps.map fun p => D.str (tx p))] s = .ok (.str (tx ps.flatten)) s := by
  show (match strsOf (ps.map fun p => D.str (tx p)) with | some ys => if joinOk (tx []) ys = true then Res.ok (D.str (Txt.join (tx []) ys)) s else .bad | none => .bad) = _
  rw [strsOf_map]
  show (if joinOk (tx []) (ps.map tx) = true then Res.ok (D.str (Txt.join (tx []) (ps.map tx))) s else .bad) = _
  rw [if_pos, join_tx]
  unfold joinOk
  refine decide_eq_true ?_
  rw [tx_len, List.length_nil, Nat.mul_zero, Nat.add_zero, List.map_map, show ((fun x : Str => x.length) ∘ tx) = List.length from funext fun cs => tx_len cs]
  exact h
theorem sum_ones (cs : List Nat) : ((cs.map fun c => [c]).map List.length).sum = cs.length := by
  induction cs with
  | nil => rfl
  | cons c r ih => simp at ih ⊢; omega
theorem join_signs (cs : List Nat) (s : S) (h : cs.length ≤ 16777216) : joinM (.str (tx [])) [.lst (cs.map fun c => D.str (tx [c]))] s = .ok (.str (tx cs)) s := by
  have := join_ok (cs.map fun c => [c]) s (by rw [sum_ones]; exact h)
  rw [flat_one, List.map_map] at this
  exact this
theorem x_ixS {cs : List Nat} {i : Int} {s : S} (h : cs.length ≤ 16777216) : ixM (.str (tx cs)) (.int i) s = Res.opt ((atI cs i).map fun c => D.str (tx [c])) s := by
  show (if lenOk (tx cs).length = true then (match atI (tx cs).cps.toList i with | some c => Res.ok (D.str ⟨#[c]⟩) s | none => .bad) else .bad) = _
  rw [tx_len, if_pos (lenOk_of h), tx_tl]
  cases atI cs i <;> rfl
theorem cutS_take (cs : List Nat) (n : Nat) : cutS (tx cs) none (some (n : Int)) = tx (cs.take n) := by
  unfold cutS
  rw [tx_tl, tx_len, HT.sIx_none, show HT.sIx cs.length cs.length (some (n : Int)) = min n cs.length from HT.sIx_nat _ _ n, List.drop_zero, Nat.sub_zero]
  show tx (cs.take (min n cs.length)) = _
  congr 1
  by_cases h : n ≤ cs.length
  · rw [Nat.min_eq_left h]
  · rw [Nat.min_eq_right (by omega), List.take_of_length_le (by omega), List.take_of_length_le (by omega)]
theorem cutS_drop (cs : List Nat) (n : Nat) : cutS (tx cs) (some (n : Int)) none = tx (cs.drop n) := by
  unfold cutS
  rw [tx_tl, tx_len, HT.sIx_none, show HT.sIx cs.length 0 (some (n : Int)) = min n cs.length from HT.sIx_nat _ _ n]
  show tx ((cs.drop (min n cs.length)).take (cs.length - min n cs.length)) = _
  congr 1
  by_cases h : n ≤ cs.length
  · rw [Nat.min_eq_left h, List.take_of_length_le (by rw [List.length_drop]; exact Nat.le_refl _)]
  · rw [Nat.min_eq_right (by omega), List.drop_of_length_le (Nat.le_refl _), List.drop_of_length_le (by omega)]
    simp
theorem x_slS {f : M D} {lo hi : M (Option Int)} {s : S} : slS f lo hi s = (f s).then' fun d => bnd lo fun l => bnd hi fun u => match d with | .str x => if lenOk x.length = true then ret (.str (cutS x l u)) else fail | _ => fail := nr rfl
theorem tx_eq {a b : List Nat} : decide (tx a = tx b) = decide (a = b) := by
  by_cases h : a = b
  · subst h; simp
  · rw [decide_eq_false h]
    exact decide_eq_false fun e => h (tx_inj e)
theorem x_eqS {a b : List Nat} {s : S} : eqM (.str (tx a)) (.str (tx b)) s = .ok (.bl (decide (a = b))) s := by
  show Res.ok (D.bl (decide (tx a = tx b))) s = _
  rw [tx_eq]
theorem x_neS {a b : List Nat} {s : S} : neM (.str (tx a)) (.str (tx b)) s = .ok (.bl (!decide (a = b))) s := by
  show Res.ok (D.bl (!decide (tx a = tx b))) s = _
  rw [tx_eq]
theorem x_eqB {a b : Bool} {s : S} : eqM (.bl a) (.bl b) s = .ok (.bl (decide (a = b))) s := by
  show (if (SeqAt.shaped (PyData.bool a) && SeqAt.shaped (PyData.bool b)) = true then Res.ok (D.bl (PyData.eqv (.bool a) (.bool b))) s else .bad) = _
  rw [if_pos (by rfl)]
  cases a <;> cases b <;> simp [PyData.eqv]
theorem x_neB {a b : Bool} {s : S} : neM (.bl a) (.bl b) s = .ok (.bl (!decide (a = b))) s := by
  show (if (SeqAt.shaped (PyData.bool a) && SeqAt.shaped (PyData.bool b)) = true then Res.ok (D.bl (!PyData.eqv (.bool a) (.bool b))) s else .bad) = _
  rw [if_pos (by rfl)]
  cases a <;> cases b <;> simp [PyData.eqv]
/-! plain values -/
inductive Pl where
  | non | int (i : Int) | str (cs : List Nat)
def Pl.d : Pl → D
  | .non => .non
  | .int i => .int i
  | .str cs => .str (tx cs)
/-- the order of plain values -/
def Pl.lt : Pl → Pl → Bool
  | .non, .non => false
  | .non, _ => true
  | _, .non => false
  | .int i, .int j => decide (i < j)
  | .int _, .str _ => true
  | .str _, .int _ => false
  | .str a, .str b => decide (a < b)
theorem Pl.nc (b : Nat) (p : Pl) : Fx.nc b p.d = true := by cases p <;> rfl
theorem Pl.ncL (b : Nat) (ps : List Pl) : Fx.ncL b (ps.map Pl.d) = true := by
  induction ps with
  | nil => rfl
  | cons p r ih =>
    show (Fx.nc b p.d && Fx.ncL b (r.map Pl.d)) = true
    rw [Pl.nc, ih]; rfl
theorem mem_pls {ps : List Pl} {d : D} (h : d ∈ ps.map Pl.d) : ∃ p, p ∈ ps ∧ d = p.d := by
  obtain ⟨n, a, b⟩ := List.mem_map.mp h
  exact ⟨n, a, b.symm⟩
theorem isa_int_NoneType : isaT "int" "NoneType" = false := by decide
theorem isa_int_bool : isaT "int" "bool" = true := by decide
theorem isa_int_int : isaT "int" "int" = true := by decide
theorem isa_int_str : isaT "int" "str" = false := by decide
theorem isa_int_tuple : isaT "int" "tuple" = false := by decide
theorem isa_int_list : isaT "int" "list" = false := by decide
theorem isa_int_dict : isaT "int" "dict" = false := by decide
theorem isa_bool_NoneType : isaT "bool" "NoneType" = false := by decide
theorem isa_bool_bool : isaT "bool" "bool" = true := by decide
theorem isa_bool_int : isaT "bool" "int" = false := by decide
theorem isa_bool_str : isaT "bool" "str" = false := by decide
theorem isa_bool_tuple : isaT "bool" "tuple" = false := by decide
theorem isa_bool_list : isaT "bool" "list" = false := by decide
theorem isa_bool_dict : isaT "bool" "dict" = false := by decide
theorem isa_str_NoneType : isaT "str" "NoneType" = false := by decide
theorem isa_str_bool : isaT "str" "bool" = false := by decide
theorem isa_str_int : isaT "str" "int" = false := by decide
theorem isa_str_str : isaT "str" "str" = true := by decide
theorem isa_str_tuple : isaT "str" "tuple" = false := by decide
theorem isa_str_list : isaT "str" "list" = false := by decide
theorem isa_str_dict : isaT "str" "dict" = false := by decide
theorem isa_tuple_NoneType : isaT "tuple" "NoneType" = false := by decide
theorem isa_tuple_bool : isaT "tuple" "bool" = false := by decide
theorem isa_tuple_int : isaT "tuple" "int" = false := by decide
theorem isa_tuple_str : isaT "tuple" "str" = false := by decide
theorem isa_tuple_tuple : isaT "tuple" "tuple" = true := by decide
theorem isa_tuple_list : isaT "tuple" "list" = false := by decide
theorem isa_tuple_dict : isaT "tuple" "dict" = false := by decide
theorem isa_list_NoneType : isaT "list" "NoneType" = false := by decide
theorem isa_list_bool : isaT "list" "bool" = false := by decide
theorem isa_list_int : isaT "list" "int" = false := by decide
theorem isa_list_str : isaT "list" "str" = false := by decide
theorem isa_list_tuple : isaT "list" "tuple" = false := by decide
theorem isa_list_list : isaT "list" "list" = true := by decide
theorem isa_list_dict : isaT "list" "dict" = false := by decide
theorem isa_dict_NoneType : isaT "dict" "NoneType" = false := by decide
theorem isa_dict_bool : isaT "dict" "bool" = false := by decide
theorem isa_dict_int : isaT "dict" "int" = false := by decide
theorem isa_dict_str : isaT "dict" "str" = false := by decide
theorem isa_dict_tuple : isaT "dict" "tuple" = false := by decide
theorem isa_dict_list : isaT "dict" "list" = false := by decide
theorem isa_dict_dict : isaT "dict" "dict" = true := by decide
theorem x_is1 {s : S} : isM .non .non s = .ok (.bl true) s := nr rfl
theorem x_is2 {i : Int} {s : S} : isM (.int i) .non s = .ok (.bl false) s := nr rfl
theorem x_is3 {i : Str} {s : S} : isM (.str i) .non s = .ok (.bl false) s := nr rfl
theorem x_is4 {i : List D} {s : S} : isM (.lst i) .non s = .ok (.bl false) s := nr rfl
theorem x_is5 {i : List D} {s : S} : isM (.tup i) .non s = .ok (.bl false) s := nr rfl
theorem x_isn1 {s : S} : isnotM .non .non s = .ok (.bl false) s := nr rfl
theorem x_isn2 {i : Int} {s : S} : isnotM (.int i) .non s = .ok (.bl true) s := nr rfl
theorem x_isn3 {i : Str} {s : S} : isnotM (.str i) .non s = .ok (.bl true) s := nr rfl
theorem x_isn4 {i : List D} {s : S} : isnotM (.lst i) .non s = .ok (.bl true) s := nr rfl
theorem x_isn5 {i : List D} {s : S} : isnotM (.tup i) .non s = .ok (.bl true) s := nr rfl
/-! append to the list that is the last cell -/
theorem x_meth {T : String} {f : M D} {fs : M (List D)} {g : D → List D → M D} {s : S} : methM T f fs g s = (f s).then' fun d s => if isTy T s d = true then bnd fs (fun ds => g d ds) s else .bad := nr rfl
theorem last_cell {vh : List Cell} {c : Cell} : (vh ++ [c])[vh.length]? = some c := by simp
theorem isTy_last {l : List (Option D)} {vh : List Cell} {ds : List D} : isTy "list" ⟨l, vh ++ [.lst ds]⟩ (.cell vh.length) = true := by
  unfold isTy lstOf
  simp [last_cell]
theorem x_appL {l : List (Option D)} {vh : List Cell} {ds : List D} {e : D} (h : ds.length < 16777216) : appM (.cell vh.length) [e] ⟨l, vh ++ [.lst ds]⟩ = .ok .non ⟨l, vh ++ [.lst (ds ++ [e])]⟩ := by
  have hz : ds.length < sizeLine := Nat.lt_of_lt_of_le h (by decide)
  unfold appM wrM
  simp [last_cell, hz]
/-- the codes of a written text -/
def cd (s : String) : List Nat := (Str.ofString s).cps.toList
theorem lit (s : String) : Str.ofString s = tx (cd s) := (tx_of _).symm
theorem cd_nil : cd "" = [] := by decide +kernel
theorem atI_mod {α : Type} {xs : List α} {n m : Int} (d : α) (h0 : 0 < m) (hm : m = (xs.length : Int)) : atI xs (n % m) = some (xs.getD (n % m).toNat d) := by
  have h1 := Int.emod_nonneg n (by omega : m ≠ 0)
  have h2 := Int.emod_lt_of_pos n h0
  have e : n % m = (((n % m).toNat : Nat) : Int) := (Int.toNat_of_nonneg h1).symm
  have h3 : (n % m).toNat < xs.length := by omega
  rw [e, atI_ofNat h3, Int.toNat_natCast, List.getD_eq_getElem?_getD, List.getElem?_eq_getElem h3]
  rfl
/-- ranks -/
def Pl.rank : Pl → D
  | .non => .tup [.int 0, .int 0, .str (tx [])]
  | .int i => .tup [.int 1, .int i, .str (tx [])]
  | .str cs => .tup [.int 2, .int 0, .str (tx cs)]
theorem lex3 (a b c d : Int) (x y : Str) : PySem.W.dataLt (.tuple [.int a, .int b, .str x]) (.tuple [.int c, .int d, .str y]) = if a = c then (if b = d then decide (x.cps.toList < y.cps.toList) else decide (b < d)) else decide (a < c) := by
  rw [PySem.W.dataLt_tuple]
  have eI : ∀ a c : Int, PyData.eqv (.int a) (.int c) = decide (a = c) := fun a c => by simp [PyData.eqv, Bool.beq_eq_decide_eq]
  have eS : PyData.eqv (.str x) (.str y) = decide (x = y) := by rw [PyData.eqv]; rfl
  by_cases h1 : a = c
  · rw [if_pos h1, PySem.W.dataLt_all_yes (by rfl) (by rw [eI]; exact decide_eq_true h1)]
    by_cases h2 : b = d
    · rw [if_pos h2, PySem.W.dataLt_all_yes (by rfl) (by rw [eI]; exact decide_eq_true h2)]
      by_cases h3 : x = y
      · rw [PySem.W.dataLt_all_yes (by rfl) (by rw [eS]; exact decide_eq_true h3)]
        subst h3
        have : ¬ (x.cps.toList < x.cps.toList) := List.lt_irrefl _
        rw [decide_eq_false this]
        rfl
      · rw [PySem.W.dataLt_all_no (by rfl) (by rw [eS]; exact decide_eq_false h3), PySem.W.dataLt_str]
    · rw [if_neg h2, PySem.W.dataLt_all_no (by rfl) (by rw [eI]; exact decide_eq_false h2), PySem.W.dataLt_int]
  · rw [if_neg h1, PySem.W.dataLt_all_no (by rfl) (by rw [eI]; exact decide_eq_false h1), PySem.W.dataLt_int]
theorem lt3 (a b c d : Int) (x y : Str) (s : S) : ltAM (.tup [.int a, .int b, .str x]) (.tup [.int c, .int d, .str y]) s = .ok (.bl (if a = c then (if b = d then decide (x.cps.toList < y.cps.toList) else decide (b < d)) else decide (a < c))) s := by
  rw [← lex3]
  show (if (PySem.W.alike (PyData.tuple [.int a, .int b, .str x]) (PyData.tuple [.int c, .int d, .str y]) && decide ((PyData.tuple [.int a, .int b, .str x]).depth ≤ 64)) = true then Res.ok (D.bl (PySem.W.dataLt (PyData.tuple [.int a, .int b, .str x]) (PyData.tuple [.int c, .int d, .str y]))) s else .bad) = _
  rw [if_pos (by rfl)]
theorem rank_lt (a b : Pl) (s : S) : ltAM a.rank b.rank s = .ok (.bl (a.lt b)) s := by
  cases a <;> cases b <;> (unfold Pl.rank; rw [lt3]) <;> simp [Pl.lt, tx_tl] <;> omega
/-! numbers of few bits -/
theorem lg_mono {a b : Nat} (h : a ≤ b) : a.log2 ≤ b.log2 := by
  by_cases ha : a = 0
  · subst ha; simp
  · exact (Nat.le_log2 (by omega)).mpr (Nat.le_trans (Nat.log2_self_le ha) h)
def Sm (c : Int) : Prop := c.natAbs.log2 ≤ 2000000
theorem Sm.div {c k : Int} (h : Sm c) (hk : 0 < k) : Sm (c / k) := by
  unfold Sm at h ⊢
  refine Nat.le_trans (lg_mono ?_) h
  have e1 : k * (c / k) + c % k = c := Int.mul_ediv_add_emod c k
  have e2 := Int.emod_nonneg c (by omega : k ≠ 0)
  have e3 := Int.emod_lt_of_pos c hk
  rcases Int.lt_or_le (c / k) 0 with h1 | h1
  · have h2 : c / k ≥ c := by
      have : (k - 1) * (c / k) ≤ 0 := Int.mul_nonpos_of_nonneg_of_nonpos (by omega) (by omega)
      have e4 : (k - 1) * (c / k) = k * (c / k) - c / k := by rw [Int.sub_mul, Int.one_mul]
      have h3 : c < 0 := by
        rcases Int.lt_or_le c 0 with z | z
        · exact z
        · have := Int.ediv_nonneg z (Int.le_of_lt hk); omega
      -- c = k q + r, r < k, q ≤ -1
      have h5 : k * (c / k) + k > c := by omega
      have h6 : (k - 1) * (c / k + 1) ≤ 0 := Int.mul_nonpos_of_nonneg_of_nonpos (by omega) (by omega)
      have e7 : (k - 1) * (c / k + 1) = k * (c / k) + k - (c / k) - 1 := by rw [Int.sub_mul, Int.one_mul, Int.mul_add, Int.mul_one]; omega
      omega
    omega
  · have h2 : c / k ≤ c := by
      have : 0 ≤ (k - 1) * (c / k) := Int.mul_nonneg (by omega) h1
      have e4 : (k - 1) * (c / k) = k * (c / k) - c / k := by rw [Int.sub_mul, Int.one_mul]
      omega
    omega
theorem Sm.of_bits {c : Int} (h : Builtin.Int.intBits c ≤ 1048576) : Sm c := by
  unfold Sm
  unfold Builtin.Int.intBits at h
  split at h <;> first | (have : c.natAbs.log2 ≤ 1048576 := by omega); omega | (next k => (have e : c = 0 := by simpa using k); subst e; decide)
theorem Sm.mul {c : Int} (h : Sm c) (k : Int) (hk : k.natAbs.log2 < 10000000) : c.natAbs.log2 + k.natAbs.log2 < 100000000 := by
  unfold Sm at h; omega
theorem x_lenTx {cs : List Nat} {s : S} (h : cs.length ≤ 16777216) : lenM [.str (tx cs)] s = .ok (.int cs.length) s := by rw [x_lenS (by rw [tx_len]; exact lenOk_of h), tx_len]
theorem x_addTx {a b : List Nat} {s : S} (h : a.length + b.length ≤ 16777216) : addM (.str (tx a)) (.str (tx b)) s = .ok (.str (tx (a ++ b))) s := by rw [x_addS, tx_len, tx_len, if_pos (lenOk_of h), tx_app]
theorem x_slVTx {cs : List Nat} {l u : Option Int} {s : S} (h : cs.length ≤ 16777216) : slV (.str (tx cs)) l u s = .ok (.str (cutS (tx cs) l u)) s := by rw [x_slVS, tx_len, if_pos (lenOk_of h)]
theorem cutS_drop1 (cs : List Nat) (n : Nat) : cutS (tx cs) (some ((n : Int) + 1)) none = tx (cs.drop (n + 1)) := cutS_drop cs (n + 1)
end Fx

/-! Fx: more for reckoning -/
namespace Fx
open PySem PySem.Spec PyProof.Rows L2
/-- a def that made cells of its own and hands back a datum without them -/
theorem runP_more {n : Nat} {g : M Out} {ds : List D} {vh : List Cell} {d : D} (h : ∃ l more, g (initS n ds vh) = .ok (.rt d) ⟨l, vh ++ more⟩) (hn : nc vh.length d = true) : runP n g ds vh = some d := by
  obtain ⟨l, more, h⟩ := h
  unfold runP
  rw [h]
  show fin vh ⟨l, vh ++ more⟩ d = some d
  unfold fin
  rw [if_pos (by show (vh ++ more).take vh.length = vh; exact List.take_left)]
  unfold thaw
  rw [if_pos hn]
theorem cut_drop {xs : List D} {k : Int} {n : Nat} (hk : k = (n : Int)) : Fx.cutD xs (some k) none = xs.drop n := by
  subst hk
  unfold Fx.cutD
  rw [HT.sIx_none, show HT.sIx xs.length 0 (some (n : Int)) = min n xs.length from HT.sIx_nat _ _ n]
  by_cases h : n ≤ xs.length
  · rw [Nat.min_eq_left h, List.take_of_length_le (by rw [List.length_drop]; exact Nat.le_refl _)]
  · rw [Nat.min_eq_right (by omega), List.drop_of_length_le (Nat.le_refl _), List.drop_of_length_le (by omega)]
    simp
theorem x_lk0 : lenOk 0 = true := lenOk_of (by decide)
theorem x_lk1 : lenOk 1 = true := lenOk_of (by decide)
theorem x_lk2 : lenOk 2 = true := lenOk_of (by decide)
theorem x_lk3 : lenOk 3 = true := lenOk_of (by decide)
theorem x_lk4 : lenOk 4 = true := lenOk_of (by decide)
theorem x_lk5 : lenOk 5 = true := lenOk_of (by decide)
theorem x_lk6 : lenOk 6 = true := lenOk_of (by decide)
theorem x_lk7 : lenOk 7 = true := lenOk_of (by decide)
theorem x_lk8 : lenOk 8 = true := lenOk_of (by decide)
theorem x_lisL {ds : List D} {s : S} : listN [.lst ds] s = .ok (.lst ds) s := nr rfl
theorem x_lisT {ds : List D} {s : S} : listN [.tup ds] s = .ok (.lst ds) s := nr rfl
theorem x_srtL {F : Pf} {ds : List D} {s : S} : sortKN F (.lst ds) s = sortKM F ds s := nr rfl
end Fx

/-! Fx: the order of plain values, plainly -/
namespace Fx
open PySem PySem.Spec PyProof.Rows L2
instance : DecidableEq Pl
  | .non, .non => .isTrue rfl
  | .int i, .int j => if h : i = j then .isTrue (by rw [h]) else .isFalse fun z => h (by cases z; rfl)
  | .str i, .str j => if h : i = j then .isTrue (by rw [h]) else .isFalse fun z => h (by cases z; rfl)
  | .non, .int _ | .non, .str _ | .int _, .non | .int _, .str _ | .str _, .non | .str _, .int _ => .isFalse fun z => by cases z
theorem Pl.irr (p : Pl) : p.lt p = false := by
  cases p with
  | non => rfl
  | int i => simp [Pl.lt]
  | str cs => exact decide_eq_false (List.lt_irrefl cs)
theorem Pl.tr {a b c : Pl} (h : a.lt b = true) (h2 : b.lt c = true) : a.lt c = true := by
  cases a <;> cases b <;> cases c <;> first
    | rfl
    | (simp [Pl.lt] at h; done)
    | (simp [Pl.lt] at h2; done)
    | (simp [Pl.lt] at h h2 ⊢; omega)
    | (simp only [Pl.lt, decide_eq_true_eq] at h h2 ⊢; exact List.lt_trans h h2)
theorem Pl.tri (a b : Pl) : a.lt b = true ∨ a = b ∨ b.lt a = true := by
  cases a with
  | non => cases b <;> first | exact .inr (.inl rfl) | exact .inl rfl
  | int i =>
    cases b with
    | non => exact .inr (.inr rfl)
    | int j =>
      rcases Int.lt_trichotomy i j with h | h | h
      · exact .inl (decide_eq_true h)
      · exact .inr (.inl (by rw [h]))
      · exact .inr (.inr (decide_eq_true h))
    | str c => exact .inl rfl
  | str x =>
    cases b with
    | non => exact .inr (.inr rfl)
    | int j => exact .inr (.inr rfl)
    | str y =>
      by_cases h : x < y
      · exact .inl (decide_eq_true h)
      · by_cases h2 : y < x
        · exact .inr (.inr (decide_eq_true h2))
        · exact .inr (.inl (by rw [List.le_antisymm (List.not_lt.mp h2) (List.not_lt.mp h)]))
theorem Pl.asy {a b : Pl} (h : a.lt b = true) : b.lt a = false := by
  cases q : b.lt a with
  | false => rfl
  | true =>
    have := Pl.tr h q
    rw [Pl.irr] at this
    cases this
/-- not after -/
def Pl.le (a b : Pl) : Bool := !b.lt a
theorem Pl.le_trans {a b c : Pl} (h : a.le b = true) (h2 : b.le c = true) : a.le c = true := by
  unfold Pl.le at *
  cases q : c.lt a with
  | false => rfl
  | true =>
    rcases Pl.tri b c with h3 | h3 | h3
    · rw [Pl.tr h3 q] at h; cases h
    · rw [h3, q] at h; cases h
    · rw [h3] at h2; cases h2
theorem Pl.le_total (a b : Pl) : (a.le b || b.le a) = true := by
  unfold Pl.le
  cases q : b.lt a with
  | false => rfl
  | true => rw [Pl.asy q]; rfl
theorem Pl.le_iff {a b : Pl} : a.le b = true ↔ a = b ∨ a.lt b = true := by
  unfold Pl.le
  constructor
  · intro h
    rcases Pl.tri a b with h3 | h3 | h3
    · exact .inr h3
    · exact .inl h3
    · rw [h3] at h; cases h
  · rintro (h | h)
    · rw [h, Pl.irr]; rfl
    · rw [Pl.asy h]; rfl
/-! what == sees of them -/
def Pl.py : Pl → PyData
  | .non => .none
  | .int i => .int i
  | .str cs => .str (tx cs)
def Pl.ok : Pl → Prop
  | .str cs => ∀ c ∈ cs, c < 1114112
  | _ => True
theorem strOk_tx {cs : List Nat} (h : ∀ c ∈ cs, c < 1114112) : PySem.PyData.strOk (tx cs) = true := by
  show (cs.toArray.all fun c => decide (c < 0x110000)) = true
  rw [List.all_toArray, List.all_eq_true]
  exact fun c hc => decide_eq_true (h c hc)
theorem Pl.pyT (p : Pl) : Fx.pyT p.d = some p.py := by cases p <;> rfl
theorem Pl.pyL : ∀ ps : List Pl, Fx.pyL (ps.map Pl.d) = some (ps.map Pl.py)
  | [] => rfl
  | p :: ps => by rw [List.map_cons, Fx.pyL, Pl.pyT, Pl.pyL ps]; rfl
theorem Pl.can {p : Pl} (h : p.ok) : p.py.canLay0 = true := by
  cases p with
  | str cs => exact strOk_tx h
  | _ => rfl
theorem Pl.canL : ∀ {ps : List Pl}, (∀ p ∈ ps, p.ok) → PyData.canLayAll0 (ps.map Pl.py) = true
  | [], _ => rfl
  | p :: ps, h => by
    rw [List.map_cons, PyData.canLayAll0, Pl.can (h p List.mem_cons_self), Pl.canL fun q hq => h q (List.mem_cons_of_mem _ hq)]
    rfl
theorem Pl.dep (p : Pl) : p.py.depth = 0 := by cases p <;> rfl
theorem Pl.depL : ∀ ps : List Pl, PyData.depthAll (ps.map Pl.py) = 0
  | [] => rfl
  | p :: ps => by rw [List.map_cons, PyData.depthAll, Pl.dep, Pl.depL ps]; rfl
theorem Pl.shaped {p : Pl} (h : p.ok) : SeqAt.shaped p.py = true := by
  unfold SeqAt.shaped
  rw [Pl.can h, Pl.dep]; rfl
theorem Pl.shapedL {ps : List Pl} (h : ∀ p ∈ ps, p.ok) : SeqAt.shaped (.list (ps.map Pl.py)) = true := by
  unfold SeqAt.shaped PyData.canLay0 PyData.depth
  rw [Pl.canL h, Pl.depL]; rfl
theorem Pl.shapedT {ps : List Pl} (h : ∀ p ∈ ps, p.ok) : SeqAt.shaped (.tuple (ps.map Pl.py)) = true := by
  unfold SeqAt.shaped PyData.canLay0 PyData.depth
  rw [Pl.canL h, Pl.depL]; rfl
theorem Pl.eqv (a b : Pl) : PyData.eqv a.py b.py = decide (a = b) := by
  cases a <;> cases b <;> first
    | (simp [Pl.py, PyData.eqv]; done)
    | (simp only [Pl.py, PyData.eqv]
       refine Eq.symm ?_
       rename_i x y
       by_cases h : x = y
       · subst h; simp
       · rw [decide_eq_false (fun z => h (by cases z; rfl))]
         refine Eq.symm (Bool.eq_false_iff.mpr fun z => h ?_)
         first | exact tx_inj (eq_of_beq z) | exact eq_of_beq z)
theorem Pl.eqvL : ∀ as bs : List Pl, PyData.eqvAll (as.map Pl.py) (bs.map Pl.py) = decide (as = bs)
  | [], [] => rfl
  | [], b :: bs => by simp [PyData.eqvAll]
  | a :: as, [] => by simp [PyData.eqvAll]
  | a :: as, b :: bs => by
    rw [List.map_cons, List.map_cons, PyData.eqvAll, Pl.eqv, Pl.eqvL as bs]
    by_cases h : a = b
    · by_cases h2 : as = bs
      · simp [h, h2]
      · simp [h, h2]
    · simp [h]
theorem x_eqPl {a b : Pl} {s : S} (ha : a.ok) (hb : b.ok) : eqM a.d b.d s = .ok (.bl (decide (a = b))) s := by
  have main : eqD a.d b.d s = .ok (.bl (decide (a = b))) s := by
    unfold eqD
    have e : ∀ p : Pl, pyD s p.d = some p.py := fun p => by cases p <;> rfl
    rw [e, e]
    dsimp only
    rw [Pl.shaped ha, Pl.shaped hb, Pl.eqv]
    rfl
  cases a <;> cases b <;> first | exact main | (rename_i x y; exact (x_eqS).trans (by simp))
theorem pyD_pls {s : S} {ps : List Pl} : pyD s (.lst (ps.map Pl.d)) = some (.list (ps.map Pl.py)) := by
  show Fx.pyT _ = _
  unfold Fx.pyT
  rw [Pl.pyL]; rfl
theorem x_eqPls {as bs : List Pl} {s : S} (ha : ∀ p ∈ as, p.ok) (hb : ∀ p ∈ bs, p.ok) : eqM (.lst (as.map Pl.d)) (.lst (bs.map Pl.d)) s = .ok (.bl (decide (as = bs))) s := by
  show eqD _ _ s = _
  unfold eqD
  rw [pyD_pls, pyD_pls]
  dsimp only
  rw [Pl.shapedL ha, Pl.shapedL hb, PyData.eqv, Pl.eqvL]
  rfl
theorem x_nePls {as bs : List Pl} {s : S} (ha : ∀ p ∈ as, p.ok) (hb : ∀ p ∈ bs, p.ok) : neM (.lst (as.map Pl.d)) (.lst (bs.map Pl.d)) s = .ok (.bl (!decide (as = bs))) s := by
  show neD _ _ s = _
  unfold neD
  rw [pyD_pls, pyD_pls]
  dsimp only
  rw [Pl.shapedL ha, Pl.shapedL hb, PyData.eqv, Pl.eqvL]
  rfl
/-! ### sorted by a key that ranks as they do -/
theorem mapO_all {f : D → Option D} {α : Type} {g h : α → D} : ∀ {as : List α}, (∀ a ∈ as, f (g a) = some (h a)) → mapO f (as.map g) = some (as.map h)
  | [], _ => rfl
  | a :: as, e => by
    rw [List.map_cons, mapO, e a List.mem_cons_self, mapO_all fun b hb => e b (List.mem_cons_of_mem _ hb)]
    rfl
theorem pyL_all {α : Type} {g : α → D} {h : α → PyData} : ∀ {as : List α}, (∀ a ∈ as, pyT (g a) = some (h a)) → pyL (as.map g) = some (as.map h)
  | [], _ => rfl
  | a :: as, e => by
    rw [List.map_cons, Fx.pyL, e a List.mem_cons_self, pyL_all fun b hb => e b (List.mem_cons_of_mem _ hb)]
    rfl
def sortPl (ps : List Pl) : List Pl := ps.mergeSort Pl.le
theorem sortPl_perm (ps : List Pl) : (sortPl ps).Perm ps := List.mergeSort_perm ps _
theorem sortPl_sorted (ps : List Pl) : (sortPl ps).Pairwise fun a b => a.le b = true := List.pairwise_mergeSort (le := Pl.le) (fun _ _ _ => Pl.le_trans) Pl.le_total ps
theorem sort_pls {F : Pf} {kd : Pl → D} {key : Pl → PyData} {ps : List Pl} {s : S} (hF : ∀ p ∈ ps, F [p.d] s.vh = some (kd p)) (hk : ∀ p ∈ ps, pyT (kd p) = some (key p)) (hl : ps.length ≤ 16777216)
    (h1 : ∀ a b, PySem.W.alike (key a) (key b) = true) (h2 : ∀ a, ∃ x r, key a = .tuple (x :: r)) (h3 : ∀ a, (key a).depth ≤ 60) (h4 : ∀ a b, PySem.W.dataLt (key a) (key b) = a.lt b) :
    sortKM F (ps.map Pl.d) s = .ok (.lst ((sortPl ps).map Pl.d)) s := by
  have e1 : keysD F s.vh (ps.map Pl.d) = some (ps.map kd) := mapO_all hF
  have e2 : pyL (ps.map kd) = some (ps.map key) := pyL_all hk
  have g : GoodK (ps.map key) := by
    refine ⟨fun d hd d' hd' => ?_, .inl fun d hd => ?_, fun d hd => ?_⟩
    · obtain ⟨a, _, rfl⟩ := List.mem_map.mp hd
      obtain ⟨b, _, rfl⟩ := List.mem_map.mp hd'
      exact h1 a b
    · obtain ⟨a, _, rfl⟩ := List.mem_map.mp hd
      exact h2 a
    · obtain ⟨a, _, rfl⟩ := List.mem_map.mp hd
      exact h3 a
  unfold sortKM
  rw [e1]
  dsimp only
  rw [e2]
  dsimp only
  rw [if_pos ⟨g, by rw [List.length_map]; exact hl⟩]
  have e3 : (ps.map Pl.d).zip (ps.map key) = ps.map fun p => (p.d, key p) := by
    rw [List.zip_map', ]
  have e4 : sortP (ps.map Pl.d) (ps.map key) = (sortPl ps).map Pl.d := by
    unfold sortP sortPl
    rw [e3, ← List.map_mergeSort (r := Pl.le) (s := PySem.W.dataLe false Prod.snd) (f := fun p : Pl => (p.d, key p)) (fun a _ b _ => by
      rw [PySem.W.dataLe_eq]
      show (!b.lt a) = (!PySem.W.dataLt (key b) (key a))
      rw [h4]), List.map_map]
    rfl
  rw [e4]
/-! ### the rank (0, 0, ''), (1, n, ''), (2, 0, text) -/
def Pl.key : Pl → PyData
  | .non => .tuple [.int 0, .int 0, .str (Str.ofString "")]
  | .int i => .tuple [.int 1, .int i, .str (Str.ofString "")]
  | .str cs => .tuple [.int 2, .int 0, .str (tx cs)]
theorem Pl.rank_py (p : Pl) : Fx.pyT p.rank = some p.key := by cases p <;> rfl
theorem Pl.key_lt (a b : Pl) : PySem.W.dataLt a.key b.key = a.lt b := by
  cases a <;> cases b <;> simp [Pl.key, Pl.lt, lex3, tx_tl, List.lt_irrefl] <;> omega
theorem sort_rank {F : Pf} {ps : List Pl} {s : S} (hF : ∀ p ∈ ps, F [p.d] s.vh = some p.rank) (hl : ps.length ≤ 16777216) : sortKM F (ps.map Pl.d) s = .ok (.lst ((sortPl ps).map Pl.d)) s := by
  refine sort_pls (key := Pl.key) hF (fun p _ => Pl.rank_py p) hl (fun a b => ?_) (fun a => ?_) (fun a => ?_) Pl.key_lt
  · cases a <;> cases b <;> rfl
  · cases a <;> exact ⟨_, _, rfl⟩
  · cases a <;> simp [Pl.key, PyData.depth, PyData.depthAll]
/-! ### rising keys -/
def Rise (ks : List Pl) : Prop := ks.Pairwise fun a b => a.lt b = true
def cntLt (ks : List Pl) (p : Pl) : Nat := (ks.filter fun q => q.lt p).length
theorem cnt_of {p : Pl} : ∀ {ks : List Pl} {n : Nat}, n ≤ ks.length → (∀ i (h : i < ks.length), i < n → ks[i].lt p = true) → (∀ i (h : i < ks.length), n ≤ i → ks[i].lt p = false) → cntLt ks p = n
  | [], n, hn, _, _ => by simp at hn; subst hn; rfl
  | k :: ks, 0, _, _, h2 => by
    unfold cntLt
    rw [List.filter_cons_of_neg (by have := h2 0 (by simp) (Nat.le_refl _); rw [List.getElem_cons_zero] at this; rw [this]; decide)]
    exact cnt_of (ks := ks) (n := 0) (Nat.zero_le _) (fun i h h' => by omega) (fun i h _ => h2 (i + 1) (by simpa using h) (Nat.zero_le _))
  | k :: ks, n + 1, hn, h1, h2 => by
    unfold cntLt
    rw [List.filter_cons_of_pos (by have := h1 0 (by simp) (by omega); rw [List.getElem_cons_zero] at this; exact this), List.length_cons]
    have := cnt_of (ks := ks) (n := n) (by simpa using hn) (fun i h h' => h1 (i + 1) (by simpa using h) (by omega)) (fun i h h' => h2 (i + 1) (by simpa using h) (by omega))
    unfold cntLt at this
    omega
theorem Rise.at {ks : List Pl} (h : Rise ks) {i j : Nat} (hi : i < ks.length) (hj : j < ks.length) (hij : i < j) : ks[i].lt ks[j] = true := List.pairwise_iff_getElem.mp h i j hi hj hij
theorem Rise.down {ks : List Pl} (h : Rise ks) {p : Pl} {i j : Nat} (hi : i < ks.length) (hj : j < ks.length) (hij : i ≤ j) (hp : ks[j].lt p = true) : ks[i].lt p = true := by
  rcases Nat.lt_or_eq_of_le hij with h1 | h1
  · exact Pl.tr (h.at hi hj h1) hp
  · subst h1; exact hp
end Fx

/-! Fx: plain values put in order one by one, plainly -/
namespace Fx
open PySem PySem.Spec PyProof.Rows L2
/-- v at its place, where it is not there -/
def insPl (v : Pl) : List Pl → List Pl
  | [] => [v]
  | k :: ks => if k.lt v = true then k :: insPl v ks else if v.lt k = true then v :: k :: ks else k :: ks
theorem ins_mem (v x : Pl) : ∀ ks : List Pl, x ∈ insPl v ks ↔ x = v ∨ x ∈ ks
  | [] => by simp [insPl]
  | k :: ks => by
    unfold insPl
    by_cases h1 : k.lt v = true
    · rw [if_pos h1, List.mem_cons, ins_mem v x ks, List.mem_cons]
      constructor
      · rintro (h | h | h)
        · exact .inr (.inl h)
        · exact .inl h
        · exact .inr (.inr h)
      · rintro (h | h | h)
        · exact .inr (.inl h)
        · exact .inl h
        · exact .inr (.inr h)
    · rw [if_neg h1]
      by_cases h2 : v.lt k = true
      · rw [if_pos h2, List.mem_cons]
      · rw [if_neg h2]
        rcases Pl.tri k v with h | h | h
        · exact absurd h h1
        · subst h
          simp
        · exact absurd h h2
theorem ins_rise {v : Pl} : ∀ {ks : List Pl}, Rise ks → Rise (insPl v ks)
  | [], _ => List.pairwise_singleton _ _
  | k :: ks, h => by
    have hh := List.pairwise_cons.mp h
    unfold insPl
    by_cases h1 : k.lt v = true
    · rw [if_pos h1]
      refine List.pairwise_cons.mpr ⟨fun x hx => ?_, ins_rise hh.2⟩
      rcases (ins_mem v x ks).mp hx with rfl | hx
      · exact h1
      · exact hh.1 x hx
    · rw [if_neg h1]
      by_cases h2 : v.lt k = true
      · rw [if_pos h2]
        refine List.pairwise_cons.mpr ⟨fun x hx => ?_, h⟩
        rcases List.mem_cons.mp hx with rfl | hx
        · exact h2
        · exact Pl.tr h2 (hh.1 x hx)
      · rw [if_neg h2]; exact h
theorem cnt_le (ks : List Pl) (v : Pl) : cntLt ks v ≤ ks.length := List.length_filter_le _ _
theorem cnt_cons_lt {k v : Pl} {ks : List Pl} (h : k.lt v = true) : cntLt (k :: ks) v = cntLt ks v + 1 := by
  unfold cntLt
  have e : (k :: ks).filter (fun q => Pl.lt q v) = k :: ks.filter (fun q => Pl.lt q v) := by rw [List.filter_cons, if_pos h]
  rw [e, List.length_cons]
theorem cnt_cons_no {k v : Pl} {ks : List Pl} (hr : Rise (k :: ks)) (h : ¬ k.lt v = true) : cntLt (k :: ks) v = 0 := by
  refine cnt_of (Nat.zero_le _) (fun i _ h => by omega) fun i hi _ => ?_
  cases q : (k :: ks)[i].lt v with
  | false => rfl
  | true => exact absurd (hr.down (i := 0) (by simp) hi (Nat.zero_le _) q) h
/-- as the program does it: at its place in the row, where that is the end or another, greater one stands there -/
theorem ins_eq {v : Pl} : ∀ {ks : List Pl}, Rise ks →
    (cntLt ks v = ks.length → insPl v ks = ks.take (cntLt ks v) ++ [v] ++ ks.drop (cntLt ks v)) ∧
    (∀ h : cntLt ks v < ks.length, (ks[cntLt ks v].d = ks[cntLt ks v].d → v.lt ks[cntLt ks v] = true → insPl v ks = ks.take (cntLt ks v) ++ [v] ++ ks.drop (cntLt ks v)) ∧ (v.lt ks[cntLt ks v] = false → insPl v ks = ks))
  | [], _ => ⟨fun _ => rfl, fun h => by exact absurd h (Nat.not_lt_zero _)⟩
  | k :: ks, hr => by
    have hh := (List.pairwise_cons.mp hr).2
    have ih := ins_eq (v := v) hh
    by_cases h1 : k.lt v = true
    · have hc := cnt_cons_lt (ks := ks) h1
      have e0 : insPl v (k :: ks) = k :: insPl v ks := by rw [insPl, if_pos h1]
      refine ⟨fun h => ?_, fun h => ⟨fun _ h2 => ?_, fun h2 => ?_⟩⟩
      · rw [hc, List.length_cons] at h
        rw [e0, ih.1 (by omega), hc]
        rfl
      · simp only [hc, List.getElem_cons_succ] at h2
        rw [hc, List.length_cons] at h
        rw [e0, (ih.2 (by omega)).1 rfl h2, hc]
        rfl
      · simp only [hc, List.getElem_cons_succ] at h2
        rw [hc, List.length_cons] at h
        rw [e0, (ih.2 (by omega)).2 h2]
    · have hc := cnt_cons_no hr h1
      refine ⟨fun h => ?_, fun h => ⟨fun _ h2 => ?_, fun h2 => ?_⟩⟩
      · rw [hc, List.length_cons] at h; omega
      · simp only [hc, List.getElem_cons_zero] at h2
        rw [insPl, if_neg h1, if_pos h2, hc]
        rfl
      · simp only [hc, List.getElem_cons_zero] at h2
        rw [insPl, if_neg h1, if_neg (by rw [h2]; decide)]
def ordPl (vs : List Pl) : List Pl := vs.foldl (fun acc v => insPl v acc) []
theorem ord_fold : ∀ (vs acc : List Pl), Rise acc → Rise (vs.foldl (fun acc v => insPl v acc) acc) ∧ ∀ x, x ∈ vs.foldl (fun acc v => insPl v acc) acc ↔ x ∈ acc ∨ x ∈ vs
  | [], acc, h => ⟨h, fun x => by simp⟩
  | v :: vs, acc, h => by
    obtain ⟨h1, h2⟩ := ord_fold vs (insPl v acc) (ins_rise h)
    refine ⟨h1, fun x => ?_⟩
    rw [List.foldl_cons, h2 x, ins_mem, List.mem_cons]
    constructor
    · rintro ((h | h) | h)
      · exact .inr (.inl h)
      · exact .inl h
      · exact .inr (.inr h)
    · rintro (h | h | h)
      · exact .inl (.inr h)
      · exact .inl (.inl h)
      · exact .inr h
theorem ord_rise (vs : List Pl) : Rise (ordPl vs) := (ord_fold vs [] List.Pairwise.nil).1
theorem ord_mem (vs : List Pl) (x : Pl) : x ∈ ordPl vs ↔ x ∈ vs := by
  have := (ord_fold vs [] List.Pairwise.nil).2 x
  unfold ordPl
  simpa using this
theorem ord_snoc (vs : List Pl) (v : Pl) : ordPl (vs ++ [v]) = insPl v (ordPl vs) := by
  unfold ordPl
  rw [List.foldl_append]
  rfl
/-- rising rows with the same members are the same -/
theorem Rise.ext : ∀ {as bs : List Pl}, Rise as → Rise bs → (∀ x, x ∈ as ↔ x ∈ bs) → as = bs
  | [], [], _, _, _ => rfl
  | [], b :: bs, _, _, h => by have := (h b).mpr List.mem_cons_self; cases this
  | a :: as, [], _, _, h => by have := (h a).mp List.mem_cons_self; cases this
  | a :: as, b :: bs, ha, hb, h => by
    have a1 := List.pairwise_cons.mp ha
    have b1 := List.pairwise_cons.mp hb
    have e : a = b := by
      rcases List.mem_cons.mp ((h a).mp List.mem_cons_self) with h1 | h1
      · exact h1
      · rcases List.mem_cons.mp ((h b).mpr List.mem_cons_self) with h2 | h2
        · exact h2.symm
        · have q1 := b1.1 a h1
          have q2 := Pl.tr q1 (a1.1 b h2)
          rw [Pl.irr] at q2; cases q2
    subst e
    congr 1
    refine Rise.ext a1.2 b1.2 fun x => ⟨fun hx => ?_, fun hx => ?_⟩
    · rcases List.mem_cons.mp ((h x).mp (List.mem_cons_of_mem _ hx)) with rfl | h1
      · have := a1.1 x hx
        rw [Pl.irr] at this; cases this
      · exact h1
    · rcases List.mem_cons.mp ((h x).mpr (List.mem_cons_of_mem _ hx)) with rfl | h1
      · have := b1.1 x hx
        rw [Pl.irr] at this; cases this
      · exact h1
end Fx

/-! Fx: objects of own classes, their fields and methods; promises of other kinds -/
namespace Fx
open PySem PySem.Spec PyProof.Rows L2
variable {X : Cx} {W : WX}
/-! ### one of two readings -/
def altM {α : Type} (f g : M α) : M α := fun s => match f s with
  | .bad => g s
  | r => r
theorem alt_is {α : Type} (f g : M α) (s : S) : altM f g s = f s ∨ altM f g s = g s := by
  unfold altM
  cases f s with
  | bad => exact .inr rfl
  | ok a s' => exact .inl rfl
  | exc e s' => exact .inl rfl
theorem pe_either {e : Expr} {t u : TE} (h : PE X e t) (k : PE X e u) : PE X e (fun σ H Q => t σ H Q ∨ u σ H Q) :=
  ⟨fun pins s σ H Q I q => q.elim (h.run pins s σ H Q I) (k.run pins s σ H Q I)⟩
theorem de_or2 {e : Expr} {f g h : M D} (a : DE X W e f) (b : DE X W e g) (c : ∀ s, h s = f s ∨ h s = g s) : DE X W e h := by
  obtain ⟨t, p, r⟩ := a
  obtain ⟨u, q, k⟩ := b
  refine ⟨_, pe_either p q, fun w H σ s Q R z => ?_⟩
  rcases c s with e | e
  · rw [e] at z; exact .inl (r w H σ s Q R z)
  · rw [e] at z; exact .inr (k w H σ s Q R z)
theorem dn_or2 {e : Expr} {f g h : M Cell} (a : DN X W e f) (b : DN X W e g) (c : ∀ s, h s = f s ∨ h s = g s) : DN X W e h := by
  obtain ⟨t, p, r⟩ := a
  obtain ⟨u, q, k⟩ := b
  refine ⟨_, pe_either p q, fun w H σ s Q R z => ?_⟩
  rcases c s with e | e
  · rw [e] at z; exact .inl (r w H σ s Q R z)
  · rw [e] at z; exact .inr (k w H σ s Q R z)
theorem de_alt {e : Expr} {f g : M D} (a : DE X W e f) (b : DE X W e g) : DE X W e (altM f g) := de_or2 a b (alt_is f g)
theorem dn_alt {e : Expr} {f g : M Cell} (a : DN X W e f) (b : DN X W e g) : DN X W e (altM f g) := dn_or2 a b (alt_is f g)
theorem dt_or2 {e : Expr} {f g h : M Bool} (a : DT X W e f) (b : DT X W e g) (c : ∀ s, h s = f s ∨ h s = g s) : DT X W e h := by
  obtain ⟨t, p, r⟩ := a
  obtain ⟨u, q, k⟩ := b
  refine ⟨fun σ H Q => t σ H Q ∨ u σ H Q, ⟨fun pins s σ H Q I z => z.elim (p.run pins s σ H Q I) (q.run pins s σ H Q I)⟩, fun w H σ s Q R z => ?_⟩
  rcases c s with e | e
  · rw [e] at z; exact .inl (r w H σ s Q R z)
  · rw [e] at z; exact .inr (k w H σ s Q R z)
theorem ds_alt {st : Stmt} {f g : M Out} (a : DS X W st f) (b : DS X W st g) : DS X W st (altM f g) := by
  obtain ⟨t, p, r⟩ := a
  obtain ⟨u, q, k⟩ := b
  refine ⟨fun D σ H => t D σ H ∨ u D σ H, ⟨fun pins s σ H D I z => z.elim (p.run pins s σ H D I) (q.run pins s σ H D I)⟩, fun w H σ s D R z => ?_⟩
  rcases alt_is f g s with e | e
  · rw [e] at z; exact .inl (r w H σ s D R z)
  · rw [e] at z; exact .inr (k w H σ s D R z)
/-! ### fields -/
def clsIn (K : PySem.W.Frag) (x : Str) (C : Addr) : Prop := PySem.W.nsIn K mainGlobals x = some (some (.ref C))
theorem clsIn.eq {K : PySem.W.Frag} {x : Str} {C C' : Addr} (h : clsIn K x C) (h' : clsIn K x C') : C' = C := by
  unfold clsIn at h h'
  rw [h] at h'
  cases h'
  rfl
def ClsP (K : PySem.W.Frag) (x : Str) : Prop := ∀ C, clsIn K x C → Cls K C
def NoA (K : PySem.W.Frag) (x f : Str) : Prop := ∀ C, clsIn K x C → NoAttr K C f
def objOf (s : S) (x : Str) : D → Option (List (Str × D))
  | .cell n => match s.vh[n]? with
    | some (.obj y fs) => if y = x then some fs else none
    | _ => none
  | _ => none
section
variable {K : PySem.W.Frag} {w : Wd} {H : Hp} {σ : L2.St} {s : S} {v : V} {d : D}
theorem RS.obj (R : RS K w H σ s) (r : Rep K w v d) {x : Str} {fs : List (Str × D)} (h : objOf s x d = some fs) : ∃ n a C dx vs, d = .cell n ∧ v = .ref a ∧ s.vh[n]? = some (.obj x fs) ∧ w.ρ[n]? = some a ∧ clsIn K x C ∧ H a = some (.ins C dx vs) ∧ RepF K w vs fs := by
  cases r with
  | @cell a n h1 =>
    obtain ⟨c, e, hc⟩ := R.cellOf h1
    unfold objOf at h
    simp only [e] at h
    cases c with
    | lst xs => simp at h
    | dct _ => simp at h
    | dctL _ _ _ => simp at h
    | dctN _ _ => simp at h
    | obj y gs =>
      simp only at h
      split at h
      · next q => cases h; subst q; obtain ⟨C, dx, vs, h2, h3, h4⟩ := hc; exact ⟨n, a, C, dx, vs, rfl, rfl, e, h1, h2, h3, h4⟩
      · cases h
  | _ => simp [objOf] at h
theorem RepF.lookup : ∀ {vs : List (Str × V)} {fs : List (Str × D)} {f : Str} {d : D}, RepF K w vs fs → fs.lookup f = some d → ∃ v, vs.lookup f = some v ∧ Rep K w v d
  | _, _, f, d, .nil, e => by cases e
  | _, _, f, d, .cons (k := k) h t, e => by
    rw [List.lookup_cons] at e ⊢
    cases q : f == k with
    | true => rw [q] at e; cases e; exact ⟨_, rfl, h⟩
    | false => rw [q] at e; exact RepF.lookup t e
theorem RepF.lookN : ∀ {vs : List (Str × V)} {fs : List (Str × D)} {f : Str}, RepF K w vs fs → fs.lookup f = none → vs.lookup f = none
  | _, _, f, .nil, _ => rfl
  | _, _, f, .cons (k := k) h t, e => by
    rw [List.lookup_cons] at e ⊢
    cases q : f == k with
    | true => rw [q] at e; cases e
    | false => rw [q] at e; exact RepF.lookN t e
theorem RepF.length : ∀ {vs : List (Str × V)} {fs : List (Str × D)}, RepF K w vs fs → vs.length = fs.length
  | _, _, .nil => rfl
  | _, _, .cons _ t => by simp only [List.length_cons]; rw [RepF.length t]
def putD (f : Str) (v : D) : List (Str × D) → List (Str × D)
  | [] => [(f, v)]
  | (g, x) :: r => if g = f then (g, v) :: r else (g, x) :: putD f v r
theorem RepF.put (r : Rep K w v d) {f : Str} : ∀ {vs : List (Str × V)} {fs : List (Str × D)}, RepF K w vs fs → RepF K w (putF f v vs) (putD f d fs)
  | _, _, .nil => .cons r .nil
  | _, _, .cons (k := k) h t => by
    unfold putF putD
    split
    · exact .cons r t
    · exact .cons h (RepF.put r t)
end
def fldM (x f : Str) (d : D) : M D := fun s => match objOf s x d with
  | some fs => match fs.lookup f with
    | some v => .ok v s
    | none => .bad
  | none => .bad
theorem de_fld {x f : Str} {e : Expr} {fe : M D} {pos : Pos} (hc : ClsP X.K x) (hn : NoA X.K x f) (h : DE X W e fe) (hb : attributeBase e f X.env (eval e X.env) = eval e X.env := by rfl) : DE X W (.Attribute e f pos) (bnd fe (fldM x f)) := by
  obtain ⟨t, p, r⟩ := h
  refine ⟨_, pe_fld p hb, fun w H σ s Q R z => ?_⟩
  refine r.bnd R z fun d s1 w1 H1 v l1 R1 r1 p1 => ?_
  unfold fldM at p1
  split at p1
  · next fs hf =>
    obtain ⟨n, a, C, dx, vs, rfl, rfl, h1, h2, h3, h4, h5⟩ := R1.obj r1 hf
    split at p1
    · next u hu =>
      obtain ⟨y, h6, h7⟩ := RepF.lookup h5 hu
      exact ⟨a, C, dx, vs, y, rfl, h4, hc C h3, hn C h3, h6, Post.here p1 R1 h7⟩
    · exact p1.elim
  · exact p1.elim
def stoM (x f : Str) (v : D) (d : D) : M Out := fun s => match d, objOf s x d with
  | .cell n, some fs => if fs.length < 1000 then .ok .nx ⟨s.loc, s.vh.set n (.obj x (putD f v fs))⟩ else .bad
  | _, _ => .bad
def fldS (x f : Str) (fo fv : M D) : M Out := bnd fv fun v => bnd fo fun d => stoM x f v d
theorem ds_fld {x f : Str} {o value : Expr} {fo fv : M D} {pos' pos : Pos} (hc : ClsP X.K x) (hn : NoA X.K x f) (ho : DE X W o fo) (hv : DE X W value fv) (hs : swapsWith value (some (.Attribute o f pos')) pos.line X.env = pure false := by rfl) : DS X W (.Assign [.Attribute o f pos'] value pos) (fldS x f fo fv) := by
  obtain ⟨t, p, r⟩ := ho
  obtain ⟨u, q, k⟩ := hv
  refine ⟨_, ps_fld p q hs, fun w H σ s D R z => ?_⟩
  refine k.bndS R z fun v s1 w1 H1 y l1 R1 r1 p1 => ?_
  refine r.bndS R1 p1 fun d s2 w2 H2 b l2 R2 r2 p2 => ?_
  unfold stoM at p2
  split at p2
  · next n fs hf =>
    obtain ⟨n', a, C, dx, vs, e0, rfl, h1, h2, h3, h4, h5⟩ := R2.obj r2 hf
    cases e0
    split at p2
    · next hl =>
      refine ⟨a, C, dx, vs, rfl, h4, hc C h3, hn C h3, by rw [RepF.length h5]; exact hl, ?_⟩
      exact p2 w2 _ σ (Le.write (List.mem_of_getElem? h2)) (R2.setCell h2 ⟨C, dx, _, h3, upd_same, RepF.put (r1.up l2) h5⟩)
    · exact p2.elim
  · exact p2.elim
/-! ### a call answers a promise -/
def Ans {α : Type} (K : PySem.W.Frag) (P : Pr V α) (sp : Sp) (g : List D → M α) : Prop := ∀ (W : WX) w H σ s vs ds Q, RS K w H σ s → RepL K w vs ds → Post K W P w H σ (g ds s) Q → sp vs H Q E0
/-- a def or method that hands back a new list or dict of its own, and changes nothing -/
abbrev Nf := List D → List Cell → Option Cell
def ncC (b : Nat) : Cell → Bool
  | .lst ds => ncL b ds
  | .dct kvs => kvs.all fun kv => nc b kv.2
  | .dctL _ _ kvs => kvs.all fun kv => nc b kv.2
  | .dctN _ kvs => kvs.all fun kv => nc b kv.2
  | .obj _ fs => fs.all fun kv => nc b kv.2
open Classical in
noncomputable def finN (vh : List Cell) (s : S) : D → Option Cell
  | .cell n => if s.vh.take vh.length = vh then (if vh.length ≤ n then (match s.vh[n]? with
    | some c => if ncC vh.length c = true then some c else none
    | none => none) else none) else none
  | _ => none
noncomputable def runN (n : Nat) (g : M Out) : Nf := fun ds vh => match g (initS n ds vh) with
  | .ok (.rt d) s => finN vh s d
  | _ => none
def SpN (K : PySem.W.Frag) (n : Nat) (F : Nf) : Sp := fun vs H Q _ => vs.length = n ∧ ∃ w σ s ds c, RS K w H σ s ∧ RepL K w vs ds ∧ F ds s.vh = some c ∧ ∀ w' H' v, Le w H w' H' → RS K w' H' σ s → (pN K).p H w' H' v c → Q v H'
def callN (n : Nat) (F : Nf) (ds : List D) : M Cell := fun s => if ds.length = n then match F ds s.vh with
  | some c => .ok c s
  | none => .bad else .bad
theorem ans_P {K : PySem.W.Frag} {n : Nat} {F : Pf} : Ans K (pD K) (SpP K n F) (callP n F) := fun W w H σ s vs ds Q R r p => by
  unfold callP at p
  split at p
  · next hl =>
    cases hF : F ds s.vh with
    | none => rw [hF] at p; exact p.elim
    | some d => rw [hF] at p; exact ⟨by rw [RepL.length r]; exact hl, w, σ, s, ds, d, R, r, hF, fun w' H' v l R' r' => p w' H' v l R' r'⟩
  · exact p.elim
theorem ans_S {K : PySem.W.Frag} {n : Nat} {F : Sf} : Ans K (pD K) (SpS K n F) (callS n F) := fun W w H σ s vs ds Q R r p => by
  unfold callS at p
  split at p
  · next hl =>
    cases hF : F ds s.vh with
    | none => rw [hF] at p; exact p.elim
    | some dv => obtain ⟨d, vh⟩ := dv; rw [hF] at p; exact ⟨by rw [RepL.length r]; exact hl, w, σ, s, ds, d, vh, R, r, hF, fun w' H' v l R' r' => p w' H' v l R' r'⟩
  · exact p.elim
theorem ans_N {K : PySem.W.Frag} {n : Nat} {F : Nf} : Ans K (pN K) (SpN K n F) (callN n F) := fun W w H σ s vs ds Q R r p => by
  unfold callN at p
  split at p
  · next hl =>
    cases hF : F ds s.vh with
    | none => rw [hF] at p; exact p.elim
    | some c => rw [hF] at p; exact ⟨by rw [RepL.length r]; exact hl, w, σ, s, ds, c, R, r, hF, fun w' H' v l R' r' => p w' H' v l R' r'⟩
  · exact p.elim
/-! ### behind a def: its own cells are forgotten -/
section
variable {K : PySem.W.Frag} {w w0 : Wd} {H H0 : Hp} {σ σ0 : L2.St} {s s0 : S} {b : Nat}
def Wd.cut (w : Wd) (b : Nat) : Wd := ⟨w.ρ.take b, w.F⟩
mutual
theorem cut_rep : ∀ {v : V} {d : D}, Rep K w v d → nc b d = true → Rep K (w.cut b) v d
  | _, _, .non, _ => .non
  | _, _, .bl x, _ => .bl x
  | _, _, .int i, _ => .int i
  | _, _, .str x, _ => .str x
  | _, _, .ref a, _ => .ref a
  | _, _, .emp h, _ => .emp h
  | _, _, .tup h t, c => .tup h (cut_repL t (by simpa [nc] using c))
  | _, _, .pr h r q, c => by
    unfold nc at c
    rw [Bool.and_eq_true] at c
    exact .pr h (cut_rep r c.1) (cut_rep q c.2)
  | _, _, .lst h t, c => .lst h (cut_repL t (by simpa [nc] using c))
  | _, _, .cell (n := n) h, c => .cell (by
      have hn : n < b := by simpa [nc] using c
      show (w.ρ.take b)[n]? = _
      rw [List.getElem?_take, if_pos hn]; exact h)
theorem cut_repL : ∀ {vs : List V} {ds : List D}, RepL K w vs ds → ncL b ds = true → RepL K (w.cut b) vs ds
  | _, _, .nil, _ => .nil
  | _, _, .cons h t, c => by
    have c : (nc b _ && ncL b _) = true := c
    rw [Bool.and_eq_true] at c
    exact .cons (cut_rep h c.1) (cut_repL t c.2)
end
theorem cut_repK : ∀ {vs : List (Key × V)} {ds : List (Key × D)}, RepK K w vs ds → (ds.all fun kv => nc b kv.2) = true → RepK K (w.cut b) vs ds
  | _, _, .nil, _ => .nil
  | _, _, .cons h t, c => by
    rw [List.all_cons, Bool.and_eq_true] at c
    exact .cons (cut_rep h c.1) (cut_repK t c.2)
theorem cut_repF : ∀ {vs : List (Str × V)} {ds : List (Str × D)}, RepF K w vs ds → (ds.all fun kv => nc b kv.2) = true → RepF K (w.cut b) vs ds
  | _, _, .nil, _ => .nil
  | _, _, .cons h t, c => by
    rw [List.all_cons, Bool.and_eq_true] at c
    exact .cons (cut_rep h c.1) (cut_repF t c.2)
theorem cut_repN : ∀ {xs : NX} {ds : List (NestedKey × D)}, RepN K w xs ds → (ds.all fun kv => nc b kv.2) = true → RepN K (w.cut b) xs ds
  | _, _, .nil, _ => .nil
  | _, _, .cons hk hq r ru h t, c => by
    rw [List.all_cons, Bool.and_eq_true] at c
    exact .cons hk hq (cut_rep r (nk_nc hk)) ru (cut_rep h c.1) (cut_repN t c.2)
theorem cut_cell {a : Addr} {c : Cell} (h : CellIs K w H a c) (hc : ncC b c = true) : CellIs K (w.cut b) H a c := by
  cases c with
  | lst ds => obtain ⟨vs, h1, h2⟩ := h; exact ⟨vs, h1, cut_repL h2 hc⟩
  | dct kvs => obtain ⟨vs, h1, h2⟩ := h; exact ⟨vs, h1, cut_repK h2 hc⟩
  | dctL o us kvs => obtain ⟨h1, h2⟩ := h; exact ⟨h1, cut_repK h2 hc⟩
  | dctN wd kvs => obtain ⟨xs, h1, h2⟩ := h; exact ⟨xs, h1, cut_repN h2 hc⟩
  | obj x fs => obtain ⟨C, dx, vs, h0, h1, h2⟩ := h; exact ⟨C, dx, vs, h0, h1, cut_repF h2 hc⟩
theorem nc_ofK : ∀ {vs : List (Key × V)} {ds : List (Key × D)}, RepK K w0 vs ds → w0.ρ.length ≤ b → (ds.all fun kv => nc b kv.2) = true
  | _, _, .nil, _ => rfl
  | _, _, .cons h t, c => by
    rw [List.all_cons, nc_of h c, nc_ofK t c]; rfl
theorem nc_ofF : ∀ {vs : List (Str × V)} {ds : List (Str × D)}, RepF K w0 vs ds → w0.ρ.length ≤ b → (ds.all fun kv => nc b kv.2) = true
  | _, _, .nil, _ => rfl
  | _, _, .cons h t, c => by
    rw [List.all_cons, nc_of h c, nc_ofF t c]; rfl
theorem nc_ofN : ∀ {xs : NX} {ds : List (NestedKey × D)}, RepN K w0 xs ds → w0.ρ.length ≤ b → (ds.all fun kv => nc b kv.2) = true
  | _, _, .nil, _ => rfl
  | _, _, .cons _ _ _ _ h t, c => by
    rw [List.all_cons, nc_of h c, nc_ofN t c]; rfl
theorem ncC_of {a : Addr} {c : Cell} (h : CellIs K w0 H0 a c) (hb : w0.ρ.length ≤ b) : ncC b c = true := by
  cases c with
  | lst ds => obtain ⟨vs, h1, h2⟩ := h; exact nc_ofL h2 hb
  | dct kvs => obtain ⟨vs, h1, h2⟩ := h; exact nc_ofK h2 hb
  | dctL o us kvs => obtain ⟨h1, h2⟩ := h; exact nc_ofK h2 hb
  | dctN wd kvs => obtain ⟨xs, h1, h2⟩ := h; exact nc_ofN h2 hb
  | obj x fs => obtain ⟨C, dx, vs, h0, h1, h2⟩ := h; exact nc_ofF h2 hb
theorem RS.ncs (R0 : RS K w0 H0 σ0 s0) : ∀ c ∈ s0.vh, ncC s0.vh.length c = true := fun c hc => by
  obtain ⟨n, hn, e⟩ := List.mem_iff_getElem.mp hc
  obtain ⟨a, _, h⟩ := R0.addrOf (n := n) (c := c) (by rw [List.getElem?_eq_getElem hn, e])
  exact ncC_of h (Nat.le_of_eq R0.cl)
theorem RS.cut (R0 : RS K w0 H0 σ0 s0) (l : Le w0 H0 w H) (R : RS K w H σ s) (hb : b = s0.vh.length) (hl : b ≤ s.vh.length) (hc : ∀ c ∈ s.vh.take b, ncC b c = true) : Le w0 H0 (w.cut b) H ∧ RS K (w.cut b) H σ0 ⟨s0.loc, s.vh.take b⟩ := by
  subst hb
  have hlen : s0.vh.length ≤ w.ρ.length := by rw [R.cl]; exact hl
  have le : w0.le (w.cut s0.vh.length) := ⟨fun n a e => by
    have hn : n < s0.vh.length := by rw [← R0.cl]; exact (List.getElem?_eq_some_iff.mp e).1
    show (w.ρ.take s0.vh.length)[n]? = some a
    rw [List.getElem?_take, if_pos hn]; exact l.le.1 n a e, l.le.2⟩
  refine ⟨⟨le, l.keep, fun a h => l.newρ a (List.mem_of_mem_take h), l.newF⟩, R.sub, R0.len, fun i d e => ?_, ?_, R.nd.sublist (List.take_sublist _ _), fun a ha => R.out a (List.mem_of_mem_take ha), fun n a c e1 e2 => ?_⟩
  · obtain ⟨v, h1, h2⟩ := R0.loc i d e
    exact ⟨v, h1, h2.upW le⟩
  · show (w.ρ.take s0.vh.length).length = (s.vh.take s0.vh.length).length
    rw [List.length_take, List.length_take]; omega
  · have e1 : (w.ρ.take s0.vh.length)[n]? = some a := e1
    have e2 : (s.vh.take s0.vh.length)[n]? = some c := e2
    have hm := List.mem_of_getElem? e2
    have hn : n < s0.vh.length := by
      have := (List.getElem?_eq_some_iff.mp e2).1
      rw [List.length_take] at this; omega
    rw [List.getElem?_take, if_pos hn] at e1 e2
    exact cut_cell (R.cells n a c e1 e2) (hc c hm)
end
open Classical in
/-- writes cells of its caller, what it made besides is forgotten -/
noncomputable def finW (b : Nat) (s : S) (d : D) : Option (D × List Cell) := if b ≤ s.vh.length then (if (s.vh.take b).all (ncC b) = true then (if nc b d = true then some (d, s.vh.take b) else none) else none) else none
noncomputable def runW (n : Nat) (g : M Out) : Sf := fun ds vh => match g (initS n ds vh) with
  | .ok (.rt d) s => finW vh.length s d
  | .ok .nx s => finW vh.length s .non
  | _ => none
section
variable {P : Program} {wd : World} {K : PySem.W.Frag} {mg : Str → Option Value} {base : Heap} {x qual : Str} {st : Stmt} {f : Addr} {fd : FuncData} {N ps : List Str} {k : Nat} {g : M Out}
theorem fn_new (F : Fun K x qual st f fd) (Sc : FnScope N ps (defScope st)) (hle : ps.length ≤ N.length)
    (body : ∀ (cdv : Value) (A : Around) (outer : List Env) (s : Shared) (H : Hp) (E : XK), Room k (A.deeper (envOfC qual (defScope st) s.heap.objs.size f cdv)) →
      DSs (cxOf CX0 P wd K mg base N qual (defScope st) f cdv A outer s H E).nox W0 (defBody st) g) : FnOk P wd K mg base CX0 (k + 1) f fd ps (SpN K ps.length (runN N.length g)) := by
  refine F.ok Sc (fun vs H Q E h => h.1) fun cdv A outer s H vs Q E hr h => ?_
  obtain ⟨t, p, r⟩ := body cdv A outer s H E hr
  obtain ⟨hl, w, σ, z, ds, c, R, rv, e, q⟩ := h
  refine ⟨t, p, r w H _ (initS N.length ds z.vh) _ (start_ok (ps := ps) R rv) ?_⟩
  show PostS K W0 w H (g (initS N.length ds z.vh)) _
  unfold runN at e
  cases hg : g (initS N.length ds z.vh) with
  | bad => rw [hg] at e; cases e
  | exc x s1 => rw [hg] at e; cases e
  | ok o s1 =>
    rw [hg] at e
    cases o with
    | brk => cases e
    | cnt => cases e
    | nx => cases e
    | rt d0 =>
      intro w' H' σ' v l R' rv
      cases d0 with
      | cell n =>
        unfold finN at e
        dsimp only at e
        by_cases h1 : s1.vh.take z.vh.length = z.vh
        · rw [if_pos h1] at e
          by_cases h2 : z.vh.length ≤ n
          · rw [if_pos h2] at e
            cases hc' : s1.vh[n]? with
            | none => rw [hc'] at e; cases e
            | some c' =>
              rw [hc'] at e
              dsimp only at e
              by_cases h3 : ncC z.vh.length c' = true
              · rw [if_pos h3] at e
                cases e
                cases rv with
                | @cell a0 _ hr =>
                  have hl2 : z.vh.length ≤ s1.vh.length := by
                    have := congrArg List.length h1
                    rw [List.length_take] at this; omega
                  obtain ⟨l2, R2⟩ := RS.cut R l R' rfl hl2 (by rw [h1]; exact R.ncs)
                  rw [h1] at R2
                  have hcell := R'.cells _ _ _ hr hc'
                  refine q _ _ _ l2 R2 ⟨_, rfl, R'.out _ (List.mem_of_getElem? hr), fun hm => ?_, cut_cell hcell h3, ?_⟩
                  · obtain ⟨m, hm1, hm2⟩ := List.mem_iff_getElem.mp hm
                    have e1 : (w'.ρ.take z.vh.length)[m]? = some a0 := by
                      rw [← hm2]
                      exact List.getElem?_eq_getElem hm1
                    have hmb : m < z.vh.length := by
                      have : m < (w'.ρ.take z.vh.length).length := hm1
                      rw [List.length_take] at this; omega
                    rw [List.getElem?_take, if_pos hmb] at e1
                    have i1 := List.getElem?_eq_some_iff.mp e1
                    have i2 := List.getElem?_eq_some_iff.mp hr
                    have := (List.getElem_inj R'.nd).mp (i1.2.trans i2.2.symm)
                    omega
                  · cases hH : H a0 with
                    | none => rfl
                    | some o =>
                      exfalso
                      rcases l.newρ a0 (List.mem_of_getElem? hr) with z1 | z1
                      · obtain ⟨m, hm1, hm2⟩ := List.mem_iff_getElem.mp z1
                        have e1 : w.ρ[m]? = some a0 := by rw [List.getElem?_eq_getElem hm1, hm2]
                        have e2 := l.le.1 m a0 e1
                        have i1 := List.getElem?_eq_some_iff.mp e2
                        have i2 := List.getElem?_eq_some_iff.mp hr
                        have := (List.getElem_inj R'.nd).mp (i1.2.trans i2.2.symm)
                        have hz : m < z.vh.length := by rw [← R.cl]; exact hm1
                        omega
                      · rw [hH] at z1; cases z1
              · rw [if_neg h3] at e; cases e
          · rw [if_neg h2] at e; cases e
        · rw [if_neg h1] at e; cases e
      | _ => simp [finN] at e
theorem fn_wr (F : Fun K x qual st f fd) (Sc : FnScope N ps (defScope st)) (hle : ps.length ≤ N.length)
    (body : ∀ (cdv : Value) (A : Around) (outer : List Env) (s : Shared) (H : Hp) (E : XK), Room k (A.deeper (envOfC qual (defScope st) s.heap.objs.size f cdv)) →
      DSs (cxOf CX0 P wd K mg base N qual (defScope st) f cdv A outer s H E).nox W0 (defBody st) g) : FnOk P wd K mg base CX0 (k + 1) f fd ps (SpS K ps.length (runW N.length g)) := by
  refine F.ok Sc (fun vs H Q E h => h.1) fun cdv A outer s H vs Q E hr h => ?_
  obtain ⟨t, p, r⟩ := body cdv A outer s H E hr
  obtain ⟨hl, w, σ, z, ds, d, vh, R, rv, e, q⟩ := h
  refine ⟨t, p, r w H _ (initS N.length ds z.vh) _ (start_ok (ps := ps) R rv) ?_⟩
  show PostS K W0 w H (g (initS N.length ds z.vh)) _
  unfold runW at e
  have fin_ok : ∀ {d0 : D} {s1 : S}, finW z.vh.length s1 d0 = some (d, vh) → ∀ w' H' σ' v, Le w H w' H' → RS K w' H' σ' s1 → Rep K w' v d0 → Q v H' := fun {d0 s1} e w' H' σ' v l R' rv => by
    unfold finW at e
    split at e
    · next h1 =>
      split at e
      · next h2 =>
        split at e
        · next h3 =>
          cases e
          rw [List.all_eq_true] at h2
          obtain ⟨l2, R2⟩ := RS.cut R l R' rfl h1 h2
          exact q _ _ _ l2 R2 (cut_rep rv h3)
        · cases e
      · cases e
    · cases e
  cases hg : g (initS N.length ds z.vh) with
  | bad => rw [hg] at e; cases e
  | exc x s1 => rw [hg] at e; cases e
  | ok o s1 =>
    rw [hg] at e
    cases o with
    | brk => cases e
    | cnt => cases e
    | rt d0 => exact fun w' H' σ' v l R' rv => fin_ok e w' H' σ' v l R' rv
    | nx => exact fun w' H' σ' l R' => fin_ok e w' H' σ' .non l R' .non
end
end Fx

/-! Fx: calls of defs and methods by their promises, new objects -/
namespace Fx
open PySem PySem.Spec PyProof.Rows L2
variable {X : Cx} {W : WX}
structure FnQ (P : Program) (wd : World) (K : PySem.W.Frag) (mg : Str → Option Value) (base : Heap) (x : Str) (k : Nat) (sp : Sp) : Prop where
  ex : ∃ (f : Addr) (fd : FuncData) (ps : List Str), mg x = some (.ref f) ∧ PySem.W.keepIn K (.ref f) = true ∧ Binds K fd ps [] ∧ FnOk P wd K mg base CX0 k f fd ps sp
structure Met (P : Program) (wd : World) (K : PySem.W.Frag) (mg : Str → Option Value) (base : Heap) (x m : Str) (k : Nat) (sp : Sp) : Prop where
  ex : ∃ (C f : Addr) (fd : FuncData) (ps : List Str), clsIn K x C ∧ Meth K C m f ∧ Binds K fd ps [] ∧ FnOk P wd K mg base CX0 k f fd ps sp
structure MkQ (P : Program) (wd : World) (K : PySem.W.Frag) (mg : Str → Option Value) (base : Heap) (x : Str) (k : Nat) (sp : Sp) : Prop where
  ex : ∃ (C f : Addr) (fd : FuncData) (ps : List Str), clsIn K x C ∧ mg x = some (.ref C) ∧ Mk K C f ∧ Binds K fd ps [] ∧ FnOk P wd K mg base CX0 k f fd ps sp
section
variable {P : Program} {wd : World} {K : PySem.W.Frag} {mg : Str → Option Value} {base : Heap} {x m : Str} {j k n : Nat} {sp : Sp}
theorem FnQ.mono (h : FnQ P wd K mg base x j sp) (l : j ≤ k) : FnQ P wd K mg base x k sp := let ⟨f, fd, ps, a, b, c, d⟩ := h.ex; ⟨f, fd, ps, a, b, c, d.mono l⟩
theorem Met.mono (h : Met P wd K mg base x m j sp) (l : j ≤ k) : Met P wd K mg base x m k sp := let ⟨C, f, fd, ps, a, b, c, d⟩ := h.ex; ⟨C, f, fd, ps, a, b, c, d.mono l⟩
theorem FnP.q {F : Pf} (h : FnP P wd K mg base x n k F) : FnQ P wd K mg base x k (SpP K n F) := let ⟨f, fd, ps, _, b, c, d, e⟩ := h.ex; ⟨f, fd, ps, b, c, d, e⟩
theorem FnS.q {F : Sf} (h : FnS P wd K mg base x n k F) : FnQ P wd K mg base x k (SpS K n F) := let ⟨f, fd, ps, _, b, c, d, e⟩ := h.ex; ⟨f, fd, ps, b, c, d, e⟩
end
section
variable {α : Type} {P : Pr V α} {sp : Sp} {g : List D → M α} {x m : Str} {k : Nat} {e o : Expr} {es : List Expr} {fo : M D} {fs : M (List D)} {p pos apos : Pos}
theorem fn_call (F : FnQ X.prog X.w X.K X.mg X.base x k sp) (A : Ans X.K P sp g) (hr : Room k X.A) (ha : DA X W (e :: es) fs) (hg : Gl X x := by rfl) (hdb : (x == ("__debug__" : Str)) = false := by decide)
    (he : starEach (e :: es) X.env = (false, eval e X.env) :: starEach es X.env := by rfl) (hpl : (backTo pos (starEach es X.env)).any (·.1) = false := by rfl) : ∃ t, PE X (.Call (.Name x p) (e :: es) [] pos) t ∧ Fol X.K W P t (bnd fs g) := by
  obtain ⟨f, fd, ps, hm, hk, hb, G⟩ := F.ex
  obtain ⟨t, q, r⟩ := ha
  refine ⟨_, pe_call G hr hg hm hk hb .nil pass0 q hdb he hpl, fun w H σ s Q R z => ?_⟩
  refine r.bnd R z fun ds s1 w1 H1 vs l1 R1 r1 p1 => ?_
  rw [List.append_nil]
  exact A W w1 H1 σ s1 vs ds Q R1 r1 p1
theorem fn_call0 (F : FnQ X.prog X.w X.K X.mg X.base x k sp) (A : Ans X.K P sp g) (hr : Room k X.A) (hg : Gl X x := by rfl) (hdb : (x == ("__debug__" : Str)) = false := by decide) : ∃ t, PE X (.Call (.Name x p) [] [] pos) t ∧ Fol X.K W P t (g []) := by
  obtain ⟨f, fd, ps, hm, hk, hb, G⟩ := F.ex
  exact ⟨_, pe_call0 G hr hg hm hk hb .nil pass0 hdb, fun w H σ s Q R z => A W w H σ s [] [] Q R .nil z⟩
/-! o.m(e, ..) -/
def metM (x m : Str) (fo : M D) (fs : M (List D)) (g : List D → M α) : M α := bnd fo fun d s => match objOf s x d with
  | some gs => if gs.lookup m = none then bnd fs (fun ds => g (d :: ds)) s else .bad
  | none => .bad
theorem met_call (hc : ClsP X.K x) (F : Met X.prog X.w X.K X.mg X.base x m k sp) (A : Ans X.K P sp g) (hr : Room k X.A) (ho : DE X W o fo) (ha : DA X W (e :: es) fs) {pl : Sem Bool}
    (hst : starEach (e :: es) X.env = (false, eval e X.env) :: starEach es X.env := by rfl) (hpl : (backTo pos (starEach es X.env)).any (·.1) = false := by rfl)
    (ht : eval (.Call (.Attribute o m apos) (e :: es) [] pos) X.env = (do
      let ov ← eval o X.env
      standAt apos.atName
      let (f, first) ← holding [ov] (getMethod ov m pl)
      callWith pos f first (backTo pos (starEach (e :: es) X.env)) (backToKw pos (keywordEach [] X.env))) := by rfl) :
    ∃ t, PE X (.Call (.Attribute o m apos) (e :: es) [] pos) t ∧ Fol X.K W P t (metM x m fo fs g) := by
  obtain ⟨C, f, fd, ps, hC, hm, hb, G⟩ := F.ex
  obtain ⟨to, po, ro⟩ := ho
  obtain ⟨t, q, r⟩ := ha
  refine ⟨_, pe_meth (pl := pl) po (hc C hC) hm G hr hb .nil pass0 q hst hpl ht, fun w H σ s Q R z => ?_⟩
  refine ro.bnd R z fun d s1 w1 H1 v l1 R1 r1 p1 => ?_
  split at p1
  · next gs hgs =>
    split at p1
    · next hl =>
      obtain ⟨n, a, C', dx, vs, e0, e1, h1, h2, h3, h4, h5⟩ := R1.obj r1 hgs
      cases hC.eq h3
      refine ⟨a, dx, vs, e1, h4, RepF.lookN h5 hl, ?_⟩
      refine r.bnd R1 p1 fun ds s2 w2 H2 us l2 R2 r2 p2 => ?_
      rw [List.append_nil]
      exact A W w2 H2 σ s2 (v :: us) (d :: ds) Q R2 (.cons (r1.up l2) r2) p2
    · exact p1.elim
  · exact p1.elim
def metM0 (x m : Str) (fo : M D) (g : List D → M α) : M α := bnd fo fun d s => match objOf s x d with
  | some gs => if gs.lookup m = none then g [d] s else .bad
  | none => .bad
theorem met_call0 (hc : ClsP X.K x) (F : Met X.prog X.w X.K X.mg X.base x m k sp) (A : Ans X.K P sp g) (hr : Room k X.A) (ho : DE X W o fo) {pl : Sem Bool}
    (ht : eval (.Call (.Attribute o m apos) [] [] pos) X.env = (do
      let ov ← eval o X.env
      standAt apos.atName
      let (f, first) ← holding [ov] (getMethod ov m pl)
      callWith pos f first (backTo pos (starEach [] X.env)) (backToKw pos (keywordEach [] X.env))) := by rfl) :
    ∃ t, PE X (.Call (.Attribute o m apos) [] [] pos) t ∧ Fol X.K W P t (metM0 x m fo g) := by
  obtain ⟨C, f, fd, ps, hC, hm, hb, G⟩ := F.ex
  obtain ⟨to, po, ro⟩ := ho
  refine ⟨_, pe_meth0 (pl := pl) po (hc C hC) hm G hr hb .nil pass0 ht, fun w H σ s Q R z => ?_⟩
  refine ro.bnd R z fun d s1 w1 H1 v l1 R1 r1 p1 => ?_
  split at p1
  · next gs hgs =>
    split at p1
    · next hl =>
      obtain ⟨n, a, C', dx, vs, e0, e1, h1, h2, h3, h4, h5⟩ := R1.obj r1 hgs
      cases hC.eq h3
      refine ⟨a, dx, vs, e1, h4, RepF.lookN h5 hl, ?_⟩
      exact A W w1 H1 σ s1 [v] [d] Q R1 (.cons r1 .nil) p1
    · exact p1.elim
  · exact p1.elim
end
/-! ### C(e, ..) -/
def makeM (x : Str) (n : Nat) (F : Sf) (ds : List D) : M D := fun s => if ds.length + 1 = n then match F (.cell s.vh.length :: ds) (s.vh ++ [.obj x []]) with
  | some (.non, vh) => .ok (.cell s.vh.length) ⟨s.loc, vh⟩
  | _ => .bad else .bad
section
variable {x : Str} {n k : Nat} {F : Sf} {e : Expr} {es : List Expr} {fs : M (List D)} {p pos : Pos}
theorem make_fol {w : Wd} {H : Hp} {σ : L2.St} {s : S} {ds : List D} {us : List V} {Q : V → Hp → Prop} {C : Addr} (hC : clsIn X.K x C) (R : RS X.K w H σ s) (r : RepL X.K w us ds) (z : Post X.K W (pD X.K) w H σ (makeM x n F ds s) Q) :
    ∀ y dx, H y = none → H dx = none → dx ≠ y → SpS X.K n F (.ref y :: (us ++ [])) (upd (upd H dx (.own y)) y (.ins C dx [])) (fun v H2 => v = .non ∧ Q (.ref y) H2) E0 := by
  intro y dx hy hdx hne
  unfold makeM at z
  split at z
  · next hl =>
    have hy' : upd H dx (.own y) y = none := by rw [upd_ne (Ne.symm hne)]; exact hy
    have R1 := R.laid (o := .own y) hdx
    have R2 := R1.laid (o := .ins C dx []) hy'
    have f1 := R1.fresh hy'
    have R3 := R2.addCell (p := y) (c := .obj x []) f1.1 f1.2 ⟨C, dx, [], hC, upd_same, .nil⟩
    have l3 : Le w H (w.own y) (upd (upd H dx (.own y)) y (.ins C dx [])) := ((Le.laid hdx).trans (Le.laid hy')).own hy
    rw [List.append_nil]
    split at z
    · next vh hF =>
      refine ⟨by rw [List.length_cons, RepL.length r]; exact hl, w.own y, σ, { s with vh := s.vh ++ [.obj x []] }, .cell s.vh.length :: ds, .non, vh, R3, .cons (.cell ?_) (r.up l3), hF, fun w' H' v l R' r' => ?_⟩
      · show (w.ρ ++ [y])[s.vh.length]? = some y
        rw [← R.cl, List.getElem?_append_right (Nat.le_refl _), Nat.sub_self]
        rfl
      · cases r'
        refine ⟨rfl, z w' H' (.ref y) (l3.trans l) R' (.cell (l.le.1 _ _ ?_))⟩
        show (w.ρ ++ [y])[s.vh.length]? = some y
        rw [← R.cl, List.getElem?_append_right (Nat.le_refl _), Nat.sub_self]
        rfl
    · exact z.elim
  · exact z.elim
theorem de_make (M : MkQ X.prog X.w X.K X.mg X.base x k (SpS X.K n F)) (hr : Room (k + 1) X.A) (ha : DA X W (e :: es) fs) (hg : Gl X x := by rfl) (hdb : (x == ("__debug__" : Str)) = false := by decide)
    (he : starEach (e :: es) X.env = (false, eval e X.env) :: starEach es X.env := by rfl) (hpl : (backTo pos (starEach es X.env)).any (·.1) = false := by rfl) : DE X W (.Call (.Name x p) (e :: es) [] pos) (bnd fs (makeM x n F)) := by
  obtain ⟨C, f, fd, ps, hC, hm, hM, hb, G⟩ := M.ex
  obtain ⟨t, q, r⟩ := ha
  refine ⟨_, pe_make hM G hr hg hm hb .nil pass0 q hdb he hpl, fun w H σ s Q R z => ?_⟩
  exact r.bnd R z fun ds s1 w1 H1 us l1 R1 r1 p1 => make_fol hC R1 r1 p1
theorem de_make0 (M : MkQ X.prog X.w X.K X.mg X.base x k (SpS X.K n F)) (hr : Room (k + 1) X.A) (hg : Gl X x := by rfl) (hdb : (x == ("__debug__" : Str)) = false := by decide) : DE X W (.Call (.Name x p) [] [] pos) (makeM x n F []) := by
  obtain ⟨C, f, fd, ps, hC, hm, hM, hb, G⟩ := M.ex
  exact ⟨_, pe_make0 hM G hr hg hm hb .nil pass0 hdb, fun w H σ s Q R z => make_fol hC R .nil z⟩
end
/-! ### as the top leaves them -/
structure TopM (K : PySem.W.Frag) (x m q : Str) (st : Stmt) (ps : List Str) : Prop where
  ex : ∃ (C f : Addr) (fd : FuncData), clsIn K x C ∧ Fun K m q st f fd ∧ Meth K C m f ∧ Binds K fd ps []
structure TopI (K : PySem.W.Frag) (mg : Str → Option Value) (x q : Str) (st : Stmt) (ps : List Str) : Prop where
  ex : ∃ (C f : Addr) (fd : FuncData), clsIn K x C ∧ mg x = some (.ref C) ∧ Fun K "__init__" q st f fd ∧ Mk K C f ∧ Binds K fd ps []
section
variable {P : Program} {wd : World} {K : PySem.W.Frag} {mg : Str → Option Value} {base : Heap} {x m q : Str} {st : Stmt} {N ps : List Str} {k : Nat} {g : M Out}
theorem clsP_mk {C : Addr} (a : PySem.W.nsIn K mainGlobals x = some (some (.ref C))) (pg : PySem.W.plainGet K C Str.empty = true) (hd : PySem.W.hasDictIn K C = true) (po : PySem.W.plainOver K C = true) (sa : PySem.W.findIn K (.ref C) "__setattr__" = some (some (.builtin "object.__setattr__"))) : ClsP K x := fun C' h => by
  cases clsIn.eq (show clsIn K x C from a) h
  exact ⟨pg, hd, po, sa⟩
theorem noA_mk {C : Addr} {f : Str} (a : PySem.W.nsIn K mainGlobals x = some (some (.ref C))) (n : PySem.W.findIn K (.ref C) f = some none) : NoA K x f := fun C' h => by
  cases clsIn.eq (show clsIn K x C from a) h
  exact n
theorem topM_mk {C f : Addr} {oc : Value} {od an : Option Addr} {osl : Array (Option Value)} {kV doc pm cdv ct : Value} (a : PySem.W.nsIn K mainGlobals x = some (some (.ref C))) (fi : PySem.W.findIn K (.ref C) m = some (some (.ref f))) (i : PySem.W.isFn K (.ref f) = true)
    (l : K.lookup f = some ⟨oc, od, .func (PySem.W.fnOf m q (defArgs st) (defBody st) (defScope st) .none kV doc pm an cdv ct), osl⟩) (c : PySem.W.codeIn K cdv q = true) (k : PySem.W.keepIn K (.ref f) = true)
    (b : ∀ (kV doc pm : Value) (an : Option Addr) (cdv ct : Value) (us : List Value), us.length = ps.length → bindArgs (PySem.W.fnOf m q (defArgs st) (defBody st) (defScope st) .none kV doc pm an cdv ct) ⟨us, []⟩ = pure (ps.zip us)) : TopM K x m q st ps :=
  have F := fun_mk (st := st) l c k
  ⟨C, f, _, a, F, ⟨fi, i, k⟩, F.binds b⟩
theorem topI_mk {h : Heap} (X : K.In h) (G : h.Ns mainGlobals mg) {C f : Addr} {oc : Value} {od an : Option Addr} {osl : Array (Option Value)} {kV doc pm cdv ct : Value} (a : PySem.W.nsIn K mainGlobals x = some (some (.ref C))) (fi : PySem.W.findIn K (.ref C) "__init__" = some (some (.ref f))) (i : PySem.W.isFn K (.ref f) = true)
    (l : K.lookup f = some ⟨oc, od, .func (PySem.W.fnOf "__init__" q (defArgs st) (defBody st) (defScope st) .none kV doc pm an cdv ct), osl⟩) (c : PySem.W.codeIn K cdv q = true) (k : PySem.W.keepIn K (.ref f) = true) (mk : PySem.W.makesIn K C = true) (kc : PySem.W.keepIn K (.ref C) = true)
    (b : ∀ (kV doc pm : Value) (an : Option Addr) (cdv ct : Value) (us : List Value), us.length = ps.length → bindArgs (PySem.W.fnOf "__init__" q (defArgs st) (defBody st) (defScope st) .none kV doc pm an cdv ct) ⟨us, []⟩ = pure (ps.zip us)) : TopI K mg x q st ps :=
  have F := fun_mk (st := st) l c k
  ⟨C, f, _, a, PySem.W.mg_of X G a, F, ⟨mk, fi, i, kc⟩, F.binds b⟩
theorem TopM.fnP (T : TopM K x m q st ps) (Sc : FnScope N ps (defScope st)) (hle : ps.length ≤ N.length)
    (body : ∀ (f : Addr) (cdv : Value) (A : Around) (outer : List Env) (s : Shared) (H : Hp) (E : XK), Room k (A.deeper (envOfC q (defScope st) s.heap.objs.size f cdv)) →
      DSs (cxOf CX0 P wd K mg base N q (defScope st) f cdv A outer s H E).nox W0 (defBody st) g) : Met P wd K mg base x m (k + 1) (SpP K ps.length (runP N.length g)) :=
  let ⟨C, f, fd, a, F, M, b⟩ := T.ex
  ⟨C, f, fd, ps, a, M, b, fn_pure F Sc hle fun cdv A outer s H E hr => body f cdv A outer s H E hr⟩
theorem TopM.fnN (T : TopM K x m q st ps) (Sc : FnScope N ps (defScope st)) (hle : ps.length ≤ N.length)
    (body : ∀ (f : Addr) (cdv : Value) (A : Around) (outer : List Env) (s : Shared) (H : Hp) (E : XK), Room k (A.deeper (envOfC q (defScope st) s.heap.objs.size f cdv)) →
      DSs (cxOf CX0 P wd K mg base N q (defScope st) f cdv A outer s H E).nox W0 (defBody st) g) : Met P wd K mg base x m (k + 1) (SpN K ps.length (runN N.length g)) :=
  let ⟨C, f, fd, a, F, M, b⟩ := T.ex
  ⟨C, f, fd, ps, a, M, b, fn_new F Sc hle fun cdv A outer s H E hr => body f cdv A outer s H E hr⟩
theorem TopM.fnS (T : TopM K x m q st ps) (Sc : FnScope N ps (defScope st)) (hle : ps.length ≤ N.length)
    (body : ∀ (f : Addr) (cdv : Value) (A : Around) (outer : List Env) (s : Shared) (H : Hp) (E : XK), Room k (A.deeper (envOfC q (defScope st) s.heap.objs.size f cdv)) →
      DSs (cxOf CX0 P wd K mg base N q (defScope st) f cdv A outer s H E).nox W0 (defBody st) g) : Met P wd K mg base x m (k + 1) (SpS K ps.length (runS N.length g)) :=
  let ⟨C, f, fd, a, F, M, b⟩ := T.ex
  ⟨C, f, fd, ps, a, M, b, fn_st F Sc hle fun cdv A outer s H E hr => body f cdv A outer s H E hr⟩
theorem TopM.fnW (T : TopM K x m q st ps) (Sc : FnScope N ps (defScope st)) (hle : ps.length ≤ N.length)
    (body : ∀ (f : Addr) (cdv : Value) (A : Around) (outer : List Env) (s : Shared) (H : Hp) (E : XK), Room k (A.deeper (envOfC q (defScope st) s.heap.objs.size f cdv)) →
      DSs (cxOf CX0 P wd K mg base N q (defScope st) f cdv A outer s H E).nox W0 (defBody st) g) : Met P wd K mg base x m (k + 1) (SpS K ps.length (runW N.length g)) :=
  let ⟨C, f, fd, a, F, M, b⟩ := T.ex
  ⟨C, f, fd, ps, a, M, b, fn_wr F Sc hle fun cdv A outer s H E hr => body f cdv A outer s H E hr⟩
theorem TopI.fnS (T : TopI K mg x q st ps) (Sc : FnScope N ps (defScope st)) (hle : ps.length ≤ N.length)
    (body : ∀ (f : Addr) (cdv : Value) (A : Around) (outer : List Env) (s : Shared) (H : Hp) (E : XK), Room k (A.deeper (envOfC q (defScope st) s.heap.objs.size f cdv)) →
      DSs (cxOf CX0 P wd K mg base N q (defScope st) f cdv A outer s H E).nox W0 (defBody st) g) : MkQ P wd K mg base x (k + 1) (SpS K ps.length (runS N.length g)) :=
  let ⟨C, f, fd, a, a2, F, M, b⟩ := T.ex
  ⟨C, f, fd, ps, a, a2, M, b, fn_st F Sc hle fun cdv A outer s H E hr => body f cdv A outer s H E hr⟩
theorem Top.fnN (T : Top K mg x st ps) (Sc : FnScope N ps (defScope st)) (hle : ps.length ≤ N.length)
    (body : ∀ (f : Addr) (cdv : Value) (A : Around) (outer : List Env) (s : Shared) (H : Hp) (E : XK), Room k (A.deeper (envOfC x (defScope st) s.heap.objs.size f cdv)) →
      DSs (cxOf CX0 P wd K mg base N x (defScope st) f cdv A outer s H E).nox W0 (defBody st) g) : FnQ P wd K mg base x (k + 1) (SpN K ps.length (runN N.length g)) :=
  let ⟨f, fd, F, m, b, _⟩ := T.ex
  ⟨f, fd, ps, m, F.kp, b, fn_new F Sc hle fun cdv A outer s H E hr => body f cdv A outer s H E hr⟩
theorem Top.fnW (T : Top K mg x st ps) (Sc : FnScope N ps (defScope st)) (hle : ps.length ≤ N.length)
    (body : ∀ (f : Addr) (cdv : Value) (A : Around) (outer : List Env) (s : Shared) (H : Hp) (E : XK), Room k (A.deeper (envOfC x (defScope st) s.heap.objs.size f cdv)) →
      DSs (cxOf CX0 P wd K mg base N x (defScope st) f cdv A outer s H E).nox W0 (defBody st) g) : FnS P wd K mg base x ps.length (k + 1) (runW N.length g) :=
  let ⟨f, fd, F, m, b, _⟩ := T.ex
  ⟨f, fd, ps, rfl, m, F.kp, b, fn_wr F Sc hle fun cdv A outer s H E hr => body f cdv A outer s H E hr⟩
end
end Fx

/-! Fx: dicts with numbers or texts as keys; sorted of ints, of dicts, of sets of ints -/
namespace Fx
open PySem PySem.Spec PyProof.Rows L2
variable {X : Cx} {W : WX}
def keyD : D → Option Key
  | .int i => some (.inl i)
  | .str x => some (.inr x)
  | _ => none
def dK : Key → D
  | .inl i => .int i
  | .inr x => .str x
section
variable {α : Type}
def valA (kvs : List (Key × α)) (k : Key) : Option α := (kvs.find? fun kv => decide (kv.1 = k)).map (·.2)
def putA (kvs : List (Key × α)) (k : Key) (v : α) : List (Key × α) := if (kvs.any fun kv => decide (kv.1 = k)) = true then kvs.map (fun kv => if kv.1 = k then (kv.1, v) else kv) else kvs ++ [(k, v)]
def dropA (kvs : List (Key × α)) (k : Key) : List (Key × α) := kvs.filter fun kv => decide (kv.1 ≠ k)
def mergeA (kvs more : List (Key × α)) : List (Key × α) := more.foldl (fun acc kv => putA acc kv.1 kv.2) kvs
end
def dctR (s : S) : D → Option (List (Key × D))
  | .cell n => match s.vh[n]? with
    | some (.dct ds) => some ds
    | some (.dctL _ _ ds) => some ds
    | _ => none
  | _ => none
section
variable {K : PySem.W.Frag} {w : Wd} {H : Hp} {σ : L2.St} {s : S} {v : V} {d : D}
theorem key_of {k : Key} (r : Rep K w v d) (h : keyD d = some k) : v = kV k := by
  cases r <;> simp [keyD] at h <;> subst h <;> rfl
theorem rep_key (k : Key) : Rep K w (kV k) (dK k) := by
  cases k
  · exact .int _
  · exact .str _
theorem RS.dictR (R : RS K w H σ s) (r : Rep K w v d) {ds : List (Key × D)} (h : dctR s d = some ds) : ∃ a vs, v = .ref a ∧ Rd H a (.dK vs) ∧ RepK K w vs ds := by
  cases r with
  | cell h1 =>
    obtain ⟨c, e, hc⟩ := R.cellOf h1
    unfold dctR at h
    simp only [e] at h
    cases c with
    | lst xs => simp at h
    | obj _ _ => simp at h
    | dct _ => simp at h; subst h; obtain ⟨vs, h2, h3⟩ := hc; exact ⟨_, _, rfl, .inl h2, h3⟩
    | dctL o us kvs => simp at h; subst h; obtain ⟨h2, h3⟩ := hc; exact ⟨_, _, rfl, .inr ⟨o, h2⟩, h3⟩
    | dctN _ _ => simp at h
  | _ => simp [dctR] at h
theorem RepK.val {k : Key} : ∀ {vs : List (Key × V)} {ds : List (Key × D)}, RepK K w vs ds → (valA ds k = none → valV vs k = none) ∧ ∀ d, valA ds k = some d → ∃ v, valV vs k = some v ∧ Rep K w v d
  | _, _, .nil => ⟨fun _ => rfl, fun d h => by cases h⟩
  | _, _, .cons (k := k') h t => by
    by_cases e : k' = k
    · refine ⟨fun z => ?_, fun d z => ?_⟩
      · simp [valA, List.find?_cons, e] at z
      · simp [valA, List.find?_cons, e] at z
        subst z
        exact ⟨_, by simp [valV, List.find?_cons, e], h⟩
    · obtain ⟨i1, i2⟩ := RepK.val (k := k) t
      refine ⟨fun z => ?_, fun d z => ?_⟩
      · have := i1 (by simpa [valA, List.find?_cons, e] using z)
        simpa [valV, List.find?_cons, e] using this
      · obtain ⟨u, h1, h2⟩ := i2 d (by simpa [valA, List.find?_cons, e] using z)
        exact ⟨u, by simpa [valV, List.find?_cons, e] using h1, h2⟩
theorem RepK.any {k : Key} : ∀ {vs : List (Key × V)} {ds : List (Key × D)}, RepK K w vs ds → (vs.any fun kv => decide (kv.1 = k)) = (ds.any fun kv => decide (kv.1 = k))
  | _, _, .nil => rfl
  | _, _, .cons h t => by rw [List.any_cons, List.any_cons, RepK.any t]
theorem RepK.append : ∀ {vs us : List (Key × V)} {ds es : List (Key × D)}, RepK K w vs ds → RepK K w us es → RepK K w (vs ++ us) (ds ++ es)
  | _, _, _, _, .nil, s => s
  | _, _, _, _, .cons r t, s => .cons r (RepK.append t s)
theorem RepK.map {k : Key} (r : Rep K w v d) : ∀ {vs : List (Key × V)} {ds : List (Key × D)}, RepK K w vs ds → RepK K w (vs.map fun kv => if kv.1 = k then (kv.1, v) else kv) (ds.map fun kv => if kv.1 = k then (kv.1, d) else kv)
  | _, _, .nil => .nil
  | _, _, .cons (k := k') h t => by
    rw [List.map_cons, List.map_cons]
    by_cases e : k' = k
    · rw [if_pos e, if_pos e]; exact .cons r (RepK.map r t)
    · rw [if_neg e, if_neg e]; exact .cons h (RepK.map r t)
theorem RepK.put {k : Key} {vs : List (Key × V)} {ds : List (Key × D)} (t : RepK K w vs ds) (r : Rep K w v d) : RepK K w (putK vs k v) (putA ds k d) := by
  unfold putK putA
  rw [RepK.any t]
  split
  · exact RepK.map r t
  · exact RepK.append t (.cons r .nil)
theorem RepK.drop {k : Key} : ∀ {vs : List (Key × V)} {ds : List (Key × D)}, RepK K w vs ds → RepK K w (dropK vs k) (dropA ds k)
  | _, _, .nil => .nil
  | _, _, .cons (k := k') h t => by
    have ih := RepK.drop (k := k) t
    unfold dropK dropA at ih ⊢
    by_cases e : k' = k
    · rw [List.filter_cons_of_neg (by simp [e]), List.filter_cons_of_neg (by simp [e])]; exact ih
    · rw [List.filter_cons_of_pos (by simp [e]), List.filter_cons_of_pos (by simp [e])]; exact .cons h ih
theorem RepK.merge {us : List (Key × V)} {es : List (Key × D)} (h : RepK K w us es) : ∀ {vs : List (Key × V)} {ds : List (Key × D)}, RepK K w vs ds → RepK K w (mergeK vs us) (mergeA ds es) := by
  induction h with
  | nil => exact fun t => t
  | cons h q ih => exact fun t => ih (RepK.put t h)
theorem RepK.keys : ∀ {vs : List (Key × V)} {ds : List (Key × D)}, RepK K w vs ds → vs.map (·.1) = ds.map (·.1)
  | _, _, .nil => rfl
  | _, _, .cons h t => by rw [List.map_cons, List.map_cons, RepK.keys t]
/-- a dict that stands by itself, to be written -/
theorem RS.dictW (R : RS K w H σ s) (r : Rep K w v d) {n : Nat} {kvs : List (Key × D)} (hd : d = .cell n) (h : s.vh[n]? = some (.dct kvs)) : ∃ a vs, v = .ref a ∧ w.ρ[n]? = some a ∧ H a = some (.dK vs) ∧ RepK K w vs kvs := by
  subst hd
  cases r with
  | @cell a _ h1 =>
    obtain ⟨c, e, hc⟩ := R.cellOf h1
    rw [h] at e
    cases e
    obtain ⟨vs, h2, h3⟩ := hc
    exact ⟨a, vs, rfl, h1, h2, h3⟩
end
/-! d[k], k in d -/
def dgetM (d e : D) : M D := fun s => match dctR s d, keyD e with
  | some kvs, some k => match valA kvs k with
    | some v => .ok v s
    | none => .bad
  | _, _ => .bad
def dinM (b : Bool) (e d : D) : M D := fun s => match dctR s d, keyD e with
  | some kvs, some k => .ok (.bl ((valA kvs k).isSome == b)) s
  | _, _ => .bad
section
variable {o i : Expr} {fo fi : M D} {pos pos' : Pos} {k : Nat}
theorem bin_or {op op1 op2 : D → D → M D} {a b : M D} (h : ∀ d e s, op d e s = op1 d e s ∨ op d e s = op2 d e s) (s : S) : bin op a b s = bin op1 a b s ∨ bin op a b s = bin op2 a b s := by
  unfold bin bnd
  cases a s with
  | bad => exact .inl rfl
  | exc x s' => exact .inl rfl
  | ok d s1 =>
    dsimp only
    cases b s1 with
    | bad => exact .inl rfl
    | exc x s' => exact .inl rfl
    | ok e s2 => exact h d e s2
theorem de_dget (hu : X.A.units + 1 < cLine) (ho : DE X W o fo) (hi : DE X W i fi) (hs : NoSl i) : DE X W (.Subscript o i pos) (bin dgetM fo fi) := by
  obtain ⟨t, p, r⟩ := ho
  obtain ⟨u, q, h⟩ := hi
  refine ⟨_, pe_dget hu p q hs, fun w H σ s Q R z => ?_⟩
  refine r.bnd R z fun d s1 w1 H1 v1 l1 R1 r1 p1 => ?_
  refine h.bnd R1 p1 fun e s2 w2 H2 v2 l2 R2 r2 p2 => ?_
  unfold dgetM at p2
  split at p2
  · next kvs k hd hk =>
    obtain ⟨a, vs, e1, h1, h2⟩ := R2.dictR (Rep.up l2 r1) hd
    have e2 := key_of r2 hk
    split at p2
    · next v hv =>
      obtain ⟨y, h3, h4⟩ := (RepK.val (k := k) h2).2 v hv
      exact ⟨a, y, e1, .inl ⟨vs, k, h1, e2, h3.symm⟩, Post.here p2 R2 h4⟩
    · exact p2.elim
  · exact p2.elim
theorem din_fol {t u : TE} {b : Bool} (r : Fol X.K W (pD X.K) t fi) (h : Fol X.K W (pD X.K) u fo) : Fol X.K W (pD X.K) (fun σ H Q => t σ H fun y H1 => u σ H1 fun x H2 => ∃ a o, x = .ref a ∧ DGet H2 a y o ∧ Q (.bl (o.isSome == b)) H2) (bin (dinM b) fi fo) := fun w H σ s Q R z => by
  refine r.bnd R z fun d s1 w1 H1 v1 l1 R1 r1 p1 => ?_
  refine h.bnd R1 p1 fun e s2 w2 H2 v2 l2 R2 r2 p2 => ?_
  unfold dinM at p2
  split at p2
  · next kvs k hd hk =>
    obtain ⟨a, vs, e1, h1, h2⟩ := R2.dictR r2 hd
    have e2 := key_of (Rep.up l2 r1) hk
    refine ⟨a, valV vs k, e1, .inl ⟨vs, k, h1, e2, rfl⟩, ?_⟩
    have e3 : (valV vs k).isSome = (valA kvs k).isSome := by
      cases hv : valA kvs k with
      | none => rw [(RepK.val (k := k) h2).1 hv]; rfl
      | some v => obtain ⟨y, h3, _⟩ := (RepK.val (k := k) h2).2 v hv; rw [h3]; rfl
    rw [e3]
    exact Post.here p2 R2 (Rep.bl _)
  · exact p2.elim
theorem pc_dinB (hu : X.A.units + 1 < cLine) {t u : TE} (p : PE X i t) (q : PE X o u) : PC X .In i o (fun σ H Q => t σ H fun y H1 => u σ H1 fun x H2 => ∃ a o, x = .ref a ∧ DGet H2 a y o ∧ Q (.bl (o.isSome == true)) H2) := by
  have h := pc_din hu p q
  have e : (fun σ H Q => t σ H fun y H1 => u σ H1 fun x H2 => ∃ a o, x = .ref a ∧ DGet H2 a y o ∧ Q (.bl (o.isSome == true)) H2 : TE) = tDIn t u := by
    unfold tDIn
    simp only [beq_true]
  rw [e]; exact h
theorem pc_dninB (hu : X.A.units + 1 < cLine) {t u : TE} (p : PE X i t) (q : PE X o u) : PC X .NotIn i o (fun σ H Q => t σ H fun y H1 => u σ H1 fun x H2 => ∃ a o, x = .ref a ∧ DGet H2 a y o ∧ Q (.bl (o.isSome == false)) H2) := by
  have h := pc_dnotin hu p q
  have e : (fun σ H Q => t σ H fun y H1 => u σ H1 fun x H2 => ∃ a o, x = .ref a ∧ DGet H2 a y o ∧ Q (.bl (o.isSome == false)) H2 : TE) = tDNotIn t u := by
    unfold tDNotIn
    simp only [beq_false]
  rw [e]; exact h
theorem de_din (hu : X.A.units + 1 < cLine) (hi : DE X W i fi) (ho : DE X W o fo) (hm : behindInMarks .In o = false := by rfl) : DE X W (.Compare i [.In] [o] pos) (bin (dinM true) fi fo) := by
  obtain ⟨t, p, r⟩ := hi
  obtain ⟨u, q, h⟩ := ho
  exact ⟨_, pe_cmp (pc_dinB hu p q) hm, din_fol r h⟩
theorem de_dnin (hu : X.A.units + 1 < cLine) (hi : DE X W i fi) (ho : DE X W o fo) (hm : behindInMarks .NotIn o = false := by rfl) : DE X W (.Compare i [.NotIn] [o] pos) (bin (dinM false) fi fo) := by
  obtain ⟨t, p, r⟩ := hi
  obtain ⟨u, q, h⟩ := ho
  exact ⟨_, pe_cmp (pc_dninB hu p q) hm, din_fol r h⟩
theorem tst_fol {t : TE} {f : M D} (r : Fol X.K W (pD X.K) t f) : Fol X.K W pB (tB t) (tst f) := fun w H σ s Q R p => r.bnd R p fun d s1 w1 H1 v1 l1 R1 r1 p1 => asB_fol R1 r1 p1
theorem dt_din (hu : X.A.units + 1 < cLine) (hi : DE X W i fi) (ho : DE X W o fo) (hm : behindInMarks .In o = false := by rfl) : DT X W (.Compare i [.In] [o] pos) (tst (bin (dinM true) fi fo)) := by
  obtain ⟨t, p, r⟩ := hi
  obtain ⟨u, q, h⟩ := ho
  exact ⟨_, pt_cmp (pc_dinB hu p q) hm, tst_fol (din_fol r h)⟩
theorem dt_dnin (hu : X.A.units + 1 < cLine) (hi : DE X W i fi) (ho : DE X W o fo) (hm : behindInMarks .NotIn o = false := by rfl) : DT X W (.Compare i [.NotIn] [o] pos) (tst (bin (dinM false) fi fo)) := by
  obtain ⟨t, p, r⟩ := hi
  obtain ⟨u, q, h⟩ := ho
  exact ⟨_, pt_cmp (pc_dninB hu p q) hm, tst_fol (din_fol r h)⟩
/-! x in xs, of flat things; c in text, c one sign -/
def flD : D → Option V
  | .non => some .non
  | .bl b => some (.bl b)
  | .int i => some (.int i)
  | .str x => some (.str x)
  | _ => none
def flL : List D → Option (List V)
  | [] => some []
  | d :: ds => match flD d, flL ds with
    | some v, some vs => some (v :: vs)
    | _, _ => none
theorem fl_of {K : PySem.W.Frag} {w : Wd} {v u : V} {d : D} (r : Rep K w v d) (h : flD d = some u) : v = u ∧ flatV u = true := by
  cases r <;> simp [flD] at h <;> subst h <;> exact ⟨rfl, rfl⟩
theorem flL_of {K : PySem.W.Frag} {w : Wd} : ∀ {vs us : List V} {ds : List D}, RepL K w vs ds → flL ds = some us → vs = us ∧ us.all flatV = true
  | _, _, _, .nil, h => by cases h; exact ⟨rfl, rfl⟩
  | _, _, _, .cons (d := d) (ds := ds) r t, h => by
    unfold flL at h
    cases h1 : flD d with
    | none => rw [h1] at h; cases h
    | some v =>
      cases h2 : flL ds with
      | none => rw [h1, h2] at h; cases h
      | some vs =>
        rw [h1, h2] at h; cases h
        obtain ⟨a1, a2⟩ := fl_of r h1
        obtain ⟨b1, b2⟩ := flL_of t h2
        exact ⟨by rw [a1, b1], by rw [List.all_cons, a2, b2]; rfl⟩
def sqOf (s : S) (d : D) : Option (List D) := match d with
  | .tup ds => some ds
  | d => lstOf s d
def inQ (b : Bool) (e d : D) : M D := fun s => match sqOf s d with
  | some ds => match flD e, flL ds with
    | some v, some vs => .ok (.bl (inV v vs == b)) s
    | _, _ => .bad
  | none => .bad
def inT (b : Bool) (e d : D) : M D := match e, d with
  | .str x, .str z => match x.cps.toList with
    | [c] => ret (.bl (decide (c ∈ z.cps.toList) == b))
    | _ => fail
  | _, _ => fail
theorem sqOf_rep {K : PySem.W.Frag} {w : Wd} {H : Hp} {σ : L2.St} {s : S} {v : V} {d : D} {ds : List D} (R : RS K w H σ s) (r : Rep K w v d) (h : sqOf s d = some ds) : ∃ a vs, v = .ref a ∧ (SqL K H a vs ∨ SqT K H a vs) ∧ RepL K w vs ds := by
  cases d with
  | tup es =>
    obtain ⟨a, vs, h1, h2, h3⟩ := R.tuple r (ds := es) rfl
    cases h
    exact ⟨a, vs, h1, .inr h2, h3⟩
  | _ =>
    obtain ⟨a, vs, h1, h2, h3⟩ := R.list r h
    exact ⟨a, vs, h1, .inl h2, h3⟩
theorem rop_inQ (b : Bool) : ROp X (rIn X.K (!b)) (inQ b) := by
  intro W w H σ s x y d e Q R rx ry p
  unfold inQ at p
  split at p
  · next ds hd =>
    split at p
    · next v vs hv hvs =>
      obtain ⟨a, us, e1, h1, h2⟩ := sqOf_rep R ry hd
      obtain ⟨e2, h3⟩ := fl_of rx hv
      obtain ⟨e3, h4⟩ := flL_of h2 hvs
      subst e1 e2 e3
      refine ⟨a, us, rfl, h1, h3, h4, ?_⟩
      have e4 : (if (!b) = true then !inV x us else inV x us) = (inV x us == b) := by cases b <;> cases inV x us <;> rfl
      rw [e4]
      exact Post.here p R (Rep.bl _)
    · exact p.elim
  · exact p.elim
theorem one_sign {x : Str} {c : Nat} (h : x.cps.toList = [c]) : x = ⟨#[c]⟩ := by
  cases x with
  | mk a =>
    have : a = #[c] := by
      rw [← Array.toArray_toList (xs := a)]
      show a.toList.toArray = _
      rw [show a.toList = [c] from h]
    rw [this]
theorem rop_inT : ROp X (fun x y H Q => ∃ (c : Nat) (z : Str), x = .str ⟨#[c]⟩ ∧ y = .str z ∧ Q (.bl (decide (c ∈ z.cps.toList))) H) (inT true) := by
  intro W w H σ s x y d e Q R rx ry p
  unfold inT at p
  split at p
  · next x1 z =>
    cases rx
    cases ry
    cases hc : x1.cps.toList with
    | nil => rw [hc] at p; exact p.elim
    | cons c r =>
      rw [hc] at p
      cases r with
      | cons _ _ => exact p.elim
      | nil =>
        refine ⟨c, z, by rw [one_sign hc], rfl, ?_⟩
        have := Post.here p R (Rep.bl _)
        simpa using this
  · exact p.elim
theorem rop_ninT : ROp X (fun x y H Q => ∃ (c : Nat) (z : Str), x = .str ⟨#[c]⟩ ∧ y = .str z ∧ Q (.bl (!decide (c ∈ z.cps.toList))) H) (inT false) := by
  intro W w H σ s x y d e Q R rx ry p
  unfold inT at p
  split at p
  · next x1 z =>
    cases rx
    cases ry
    cases hc : x1.cps.toList with
    | nil => rw [hc] at p; exact p.elim
    | cons c r =>
      rw [hc] at p
      cases r with
      | cons _ _ => exact p.elim
      | nil =>
        refine ⟨c, z, by rw [one_sign hc], rfl, ?_⟩
        have := Post.here p R (Rep.bl _)
        simpa using this
  · exact p.elim
def inM (e d : D) : M D := altM (inT true e d) (inQ true e d)
def ninM (e d : D) : M D := altM (inT false e d) (inQ false e d)
theorem rop_alt {r1 r2 : R2} {g1 g2 : D → D → M D} (h1 : ROp X r1 g1) (h2 : ROp X r2 g2) : ROp X (fun x y H Q => r1 x y H Q ∨ r2 x y H Q) (fun d e => altM (g1 d e) (g2 d e)) := fun W w H σ s x y d e Q R rx ry p => by
  have p : Post X.K W (pD X.K) w H σ (altM (g1 d e) (g2 d e) s) Q := p
  rcases alt_is (g1 d e) (g2 d e) s with q | q
  · rw [q] at p; exact .inl (h1 W w H σ s x y d e Q R rx ry p)
  · rw [q] at p; exact .inr (h2 W w H σ s x y d e Q R rx ry p)
theorem rop_inA : ROp X (fun x y H Q => (∃ (c : Nat) (z : Str), x = .str ⟨#[c]⟩ ∧ y = .str z ∧ Q (.bl (decide (c ∈ z.cps.toList))) H) ∨ rIn X.K false x y H Q) inM := rop_alt rop_inT (rop_inQ true)
theorem rop_ninA : ROp X (fun x y H Q => (∃ (c : Nat) (z : Str), x = .str ⟨#[c]⟩ ∧ y = .str z ∧ Q (.bl (!decide (c ∈ z.cps.toList))) H) ∨ rIn X.K true x y H Q) ninM := rop_alt rop_ninT (rop_inQ false)
theorem op_inA : OpR X (compareOp .In) (fun x y H Q => (∃ (c : Nat) (z : Str), x = .str ⟨#[c]⟩ ∧ y = .str z ∧ Q (.bl (decide (c ∈ z.cps.toList))) H) ∨ rIn X.K false x y H Q) := opr_or op_in_sign op_in_seq
theorem op_ninA : OpR X (compareOp .NotIn) (fun x y H Q => (∃ (c : Nat) (z : Str), x = .str ⟨#[c]⟩ ∧ y = .str z ∧ Q (.bl (!decide (c ∈ z.cps.toList))) H) ∨ rIn X.K true x y H Q) := opr_or op_notIn_sign op_notIn_seq
/-! both kinds in one -/
def ixAM (d e : D) : M D := altM (dgetM d e) (ixM d e)
def inAM (e d : D) : M D := altM (dinM true e d) (inM e d)
def ninAM (e d : D) : M D := altM (dinM false e d) (ninM e d)
theorem de_ixA (hu : X.A.units + 1 < cLine) (ho : DE X W o fo) (hi : DE X W i fi) (hs : PlainIx i := by exact fun _ _ => rfl) : DE X W (.Subscript o i pos) (bin ixAM fo fi) :=
  de_or2 (de_dget hu ho hi hs) (de_ix ho hi hs) (bin_or fun d e s => alt_is _ _ s)
theorem tst_or {f g h : M D} (c : ∀ s, h s = f s ∨ h s = g s) (s : S) : tst h s = tst f s ∨ tst h s = tst g s := by
  unfold tst bnd
  rcases c s with e | e
  · rw [e]; exact .inl rfl
  · rw [e]; exact .inr rfl
theorem de_inA (hu : X.A.units + 64 < cLine) (hi : DE X W i fi) (ho : DE X W o fo) (hm : behindInMarks .In o = false := by rfl) : DE X W (.Compare i [.In] [o] pos) (bin inAM fi fo) :=
  de_or2 (de_din (by omega) hi ho hm) (de_cmp op_inA rop_inA hi ho hm) (bin_or fun d e s => alt_is _ _ s)
theorem de_ninA (hu : X.A.units + 64 < cLine) (hi : DE X W i fi) (ho : DE X W o fo) (hm : behindInMarks .NotIn o = false := by rfl) : DE X W (.Compare i [.NotIn] [o] pos) (bin ninAM fi fo) :=
  de_or2 (de_dnin (by omega) hi ho hm) (de_cmp op_ninA rop_ninA hi ho hm) (bin_or fun d e s => alt_is _ _ s)
theorem dt_inA (hu : X.A.units + 64 < cLine) (hi : DE X W i fi) (ho : DE X W o fo) (hm : behindInMarks .In o = false := by rfl) : DT X W (.Compare i [.In] [o] pos) (tst (bin inAM fi fo)) :=
  dt_or2 (dt_din (by omega) hi ho hm) (dt_cmp op_inA rop_inA hi ho hm) (tst_or (bin_or fun d e s => alt_is _ _ s))
theorem dt_ninA (hu : X.A.units + 64 < cLine) (hi : DE X W i fi) (ho : DE X W o fo) (hm : behindInMarks .NotIn o = false := by rfl) : DT X W (.Compare i [.NotIn] [o] pos) (tst (bin ninAM fi fo)) :=
  dt_or2 (dt_dnin (by omega) hi ho hm) (dt_cmp op_ninA rop_ninA hi ho hm) (tst_or (bin_or fun d e s => alt_is _ _ s))
/-! d[k] = v -/
def dputM (v d e : D) : M Out := fun s => match d, keyD e with
  | .cell n, some k => match s.vh[n]? with
    | some (.dct kvs) => if kvs.length < sizeLine then .ok .nx ⟨s.loc, s.vh.set n (.dct (putA kvs k v))⟩ else .bad
    | _ => .bad
  | _, _ => .bad
def dputS (fo fi fv : M D) : M Out := bnd fv fun v => bnd fo fun d => bnd fi fun e => dputM v d e
theorem ds_dput {value : Expr} {fv : M D} (hu : X.A.units + 1 < cLine) (ho : DE X W o fo) (hi : DE X W i fi) (hv : DE X W value fv) (hs : swapsWith value (some (.Subscript o i pos')) pos.line X.env = pure false := by rfl) : DS X W (.Assign [.Subscript o i pos'] value pos) (dputS fo fi fv) := by
  obtain ⟨t, p, r⟩ := ho
  obtain ⟨u, q, h⟩ := hi
  obtain ⟨y, p', k⟩ := hv
  refine ⟨_, ps_dput hu p q p' hs, fun w H σ s D R z => ?_⟩
  refine k.bndS R z fun v s1 w1 H1 v1 l1 R1 r1 p1 => ?_
  refine r.bndS R1 p1 fun d s2 w2 H2 v2 l2 R2 r2 p2 => ?_
  refine h.bndS R2 p2 fun e s3 w3 H3 v3 l3 R3 r3 p3 => ?_
  unfold dputM at p3
  split at p3
  · next n k hk =>
    split at p3
    · next kvs hkv =>
      split at p3
      · next hl =>
        obtain ⟨a, vs, e1, h1, h2, h3⟩ := R3.dictW (Rep.up l3 r2) rfl hkv
        have e2 := key_of r3 hk
        refine ⟨a, upd H3 a (.dK (putK vs k v1)), e1, .inl ⟨vs, k, h2, e2, by rw [RepK.length h3]; exact hl, rfl⟩, ?_⟩
        exact p3 w3 _ σ (Le.write (List.mem_of_getElem? h1)) (R3.setCell h1 ⟨_, upd_same, RepK.put h3 ((r1.up l2).up l3)⟩)
      · exact p3.elim
    · exact p3.elim
  · exact p3.elim
end
/-! {k: v, ..} -/
@[reducible] def pP (K : PySem.W.Frag) : Pr (List (V × V)) (List (Key × D)) := ⟨fun _ w _ v d => ∃ kvs : List (Key × V), v = kvs.map (fun kv => (kV kv.1, kv.2)) ∧ RepK K w kvs d, fun _ _ _ _ _ _ _ _ _ _ h => h⟩
def DP (X : Cx) (W : WX) (pos : Pos) (ks : List (Option Expr)) (vs : List Expr) (f : M (List (Key × D))) : Prop := ∃ trs, PPs X pos ks vs trs ∧ Fol X.K W (pP X.K) (fun σ H Q => tPairs trs σ H Q) f
def pairM (p q : M D) (r : M (List (Key × D))) : M (List (Key × D)) := bnd p fun d => bnd q fun e => bnd r fun ds => match keyD d with
  | some k => ret ((k, e) :: ds)
  | none => fail
def dspM (r : M (List (Key × D))) : M Cell := bnd r fun ds => if ds.length ≤ 15 then ret (.dct (mergeA [] ds)) else fail
section
variable {k v : Expr} {ks : List (Option Expr)} {vs : List Expr} {fk fv : M D} {fr : M (List (Key × D))} {pos : Pos}
theorem dp_nil : DP X W pos [] [] (ret []) := ⟨[], pps_nil, fun w H σ s Q R p => Post.here p R ⟨[], rfl, .nil⟩⟩
theorem dp_cons (hk : DE X W k fk) (hv : DE X W v fv) (hr : DP X W pos ks vs fr) : DP X W pos (some k :: ks) (v :: vs) (pairM fk fv fr) := by
  obtain ⟨t, p, r⟩ := hk
  obtain ⟨u, q, h⟩ := hv
  obtain ⟨trs, p', h'⟩ := hr
  refine ⟨(t, u) :: trs, pps_cons p q p', fun w H σ s Q R z => ?_⟩
  refine r.bnd R z fun d s1 w1 H1 v1 l1 R1 r1 p1 => ?_
  refine h.bnd R1 p1 fun e s2 w2 H2 v2 l2 R2 r2 p2 => ?_
  refine h'.bnd R2 p2 fun ds s3 w3 H3 v3 l3 R3 r3 p3 => ?_
  obtain ⟨kvs, e3, r3⟩ := r3
  cases hk : keyD d with
  | none => rw [hk] at p3; exact p3.elim
  | some k =>
    rw [hk] at p3
    have e1 := key_of r1 hk
    refine Post.here p3 R3 ⟨(k, v2) :: kvs, ?_, .cons (r2.up l3) r3⟩
    rw [List.map_cons, e1, e3]
theorem dn_disp (h : DP X W pos ks vs fr) (hall : ks.all (·.isSome) = true := by rfl) (hl : ks.length = vs.length := by rfl) (h0 : ks ≠ [] := by (intro z; cases z)) (h15 : ks.length ≤ 15 := by decide) : DN X W (.Dict ks vs pos) (dspM fr) := by
  obtain ⟨trs, p, r⟩ := h
  refine ⟨_, pe_disp p hall hl h0 h15, fun w H σ s Q R z => ?_⟩
  intro q hq
  have f := R.fresh hq
  have R0 := R.laid (o := .dK []) hq
  refine r w _ σ s _ R0 ?_
  unfold dspM bnd at z
  cases hf : fr s with
  | bad => rw [hf] at z; exact z.elim
  | exc e s1 => rw [hf] at z; exact fun w' H' l R' => z w' H' ((Le.laid hq).trans l) R'
  | ok ds s1 =>
    rw [hf] at z
    rintro w1 H1 _ l1 R1 ⟨kvs, rfl, rk⟩
    have hq1 : H1 q = some (.dK []) := l1.keep q _ upd_same f.2
    have nF : w1.F q = none := by
      cases e : w1.F q with
      | none => rfl
      | some o =>
        rcases l1.newF q o e with h | h | h
        · rw [f.1] at h; cases h
        · rw [upd_same] at h; cases h
        · exact (f.2 h).elim
    have nR : q ∉ w1.ρ := fun h => by
      rcases l1.newρ q h with h | h
      · exact f.2 h
      · rw [upd_same] at h; cases h
    dsimp only at z
    by_cases hl : ds.length ≤ 15
    · rw [if_pos hl] at z
      refine ⟨hq1, kvs, rfl, by rw [RepK.length rk]; exact hl, ?_⟩
      exact z w1 _ _ (((Le.laid hq).trans l1).mut hq) (R1.mut nF nR) ⟨q, rfl, nF, nR, ⟨_, upd_same, RepK.merge rk .nil⟩, hq⟩
    · rw [if_neg hl] at z; exact z.elim
theorem dn_dict0 {pos : Pos} : DN X W (.Dict [] [] pos) (ret (.dct [])) := by
  refine ⟨_, pe_dnewK, fun w H σ s Q R z => fun q hq => ?_⟩
  have f := R.fresh hq
  exact z w _ _ (Le.laid hq) (R.laid hq) ⟨q, rfl, f.1, f.2, ⟨_, upd_same, .nil⟩, hq⟩
end
end Fx

/-! Fx: sets of ints made of lists -/
namespace L2
open PySem PySem.Spec PyProof.Rows
abbrev bareSet (w : World) : Obj := { cls := .type "set", dict := none, data := .set #[] 0 (.fresh 0 0 (!w.params.followText "set-order")) }
section
variable {P : Program} {w : World} {A : Around} {E : Value → Shared → Prop} {s : Shared}
set_option maxHeartbeats 3200000 in
/-- set(xs) of a list of ints, the set's inside told -/
theorem set_of_list {l : Addr} {items : Array Value} (ns : List Int) {Q : Value → Shared → Prop} (hh : A.handled = none) (hl : s.heap.IsList l items) (hit : IntsAre items.toList ns) (hb : ns.length + 1 < scanBound)
    (k : ∀ (h' : Heap) (tk c : Nat), SetR w h' s.heap.objs.size (fun j => decide (j ∈ ns)) c → c ≤ ns.length → (∀ b o, s.heap.get? b = some o → h'.get? b = some o) → Q (.ref s.heap.objs.size) { s with heap := h', toks := tk }) :
    wpAny (model P w) A (call (.type "set") [.ref l]) Q E s := by
  have many : items.size = ns.length := by rw [← Array.length_toList]; exact IntsAre.length hit
  obtain ⟨c, tl, hmro⟩ := F.called_set.mro
  have a1 := F.called_set.made
  have a2 := F.called_set.sub
  refine wpAny_call (codeAny_of_tree (wpAny_pure ⟨Code.quiet_builtin _ (by decide +kernel), codeAny_builtin F.entry_type_call ?_⟩ : wpAny _ _ (callAny (.type "set") _) _ _ _))
  rw [Around.under_plain (weight_type_call_type "set" [.ref l] []) rfl]
  have a3 := F.called_set.notType
  have a4 := F.called_set.canCreate
  have a5 := F.typeCall_set_1 (.ref l)
  repeat (any_goals (first | assumption | wp_step))
  refine codeAny_mono (code_set_led1 (.ref l) (E := E) (Q₁ := fun obj s₁ => obj = .ref s.heap.objs.size ∧ s₁ = { s with heap := s.heap.push (bareSet w) }) ⟨rfl, rfl⟩) fun r s₁ hr => ?_
  match r, hr with
  | .error e, hr => exact hr
  | .ok (.ret obj), hr =>
    obtain ⟨rfl, rfl⟩ := hr
    have here : (s.heap.push (bareSet w)).get? s.heap.objs.size = some (bareSet w) := Heap.get?_push_size _ rfl
    have isSet : Shared.TypeIs { s with heap := s.heap.push (bareSet w) } (.ref s.heap.objs.size) "set" := ⟨_, here, rfl⟩
    have b1 := F.called_set.init.lookup
    have b2 := F.called_set.init.bind (.ref s.heap.objs.size)
    repeat (any_goals (first | assumption | wp_step))
    refine codeAny_mono (codeAny_call_builtin (R := wants (fun r s₂ => r = .none ∧ ∃ h' tk c, s₂ = { s with heap := h', toks := tk } ∧ SetR w h' s.heap.objs.size (fun j => decide (j ∈ ns)) c ∧ c ≤ ns.length ∧ (∀ b o, s.heap.get? b = some o → h'.get? b = some o)) E)
      F.called_set.init.plain F.entry_set_init (check_set_init_1 isSet ?_)) fun r₂ s₂ hr₂ => ?_
    · obtain ⟨⟨cl0, di0, da0, sl0⟩, at0, rfl, n0, rfl⟩ := hl
      have at1 : (s.heap.push (bareSet w)).get? l = some { cls := .type "list", dict := di0, data := .seq items n0, slots := sl0 } := Heap.get?_push_of_some _ at0
      have c1 := F.sub_list_set
      have c2 := F.sub_list_frozenset
      have c3 : (Value.type "list" == Value.type "dict") = false := by decide
      have list1 : (s.heap.push (bareSet w)).IsList l items := ⟨_, at1, rfl, n0, rfl⟩
      unfold Builtin.«set.__init__» noKeywords Builtin.Frozenset.updateFrom
      generalize hPI : pyIter = PI
      wp_walk
      subst hPI
      refine wpAny_pyIter_list list1 (wpAny_bind (wpAny_runValue ?_))
      have lt0 : l < s.heap.objs.size := Heap.lt_size at0
      have quiet : A.in1.in1.in1.handled = none := by simp [hh]
      have sz : (s.heap.push (bareSet w)).objs.size = s.heap.objs.size + 1 := Heap.size_push ..
      have ne1 : l ≠ (s.heap.push (bareSet w)).objs.size := by rw [sz]; exact Nat.ne_of_lt (Nat.lt_succ_of_lt lt0)
      have out1 : s.heap.objs.size ∉ [(s.heap.push (bareSet w)).objs.size, l] := by simp only [List.mem_cons, List.not_mem_nil, or_false, not_or]; rw [sz]; exact ⟨Nat.ne_of_lt (Nat.lt_succ_self _), Nat.ne_of_gt lt0⟩
      have each : ∀ (i : Nat) (v : Value), items[i]? = some v → ∃ k t, ns[i]? = some k ∧ v = .int k t := fun i v hv => by
        have hi : i < ns.length := by rw [← many]; exact (Array.getElem?_eq_some_iff.mp hv).1
        obtain ⟨t, e⟩ := PyProof.Rows.IntsAre.int_at hit i v (by rw [Array.getElem?_toList]; exact hv)
        exact ⟨ns[i], t, List.getElem?_eq_getElem hi, by rw [e, List.getD_eq_getElem?_getD, List.getElem?_eq_getElem hi]; rfl⟩
      refine set_update_ints ((Walks.list quiet _ l ne1 items).toS) s.heap.objs.size out1 ns many hb each (items.size - 0) 0 _ (by omega) (Nat.zero_le _) ⟨⟨_, Heap.get?_push_size _ rfl, rfl, rfl⟩, (list1.push _)⟩ ⟨0, Nat.le_refl 0, setR_new_at (Heap.get?_push_of_some _ here)⟩ ?_
      rintro ⟨h', g2, d', tk', os'⟩ c' mv hc' hS'
      obtain rfl : g2 = s.gens := mv.gens
      obtain rfl : d' = s.drawn := mv.drawn
      obtain rfl : os' = s.os := mv.os
      show wpAny _ _ _ _ _ _
      refine wpAny_pure ?_
      show wpAny _ _ (ret Value.none) _ _ _
      refine wpAny_pure ⟨rfl, h', tk', c', rfl, hS', by rw [← many]; exact hc', fun b o e => ?_⟩
      have lt1 : b < s.heap.objs.size := Heap.lt_size e
      exact mv.heap b o (by simp only [List.mem_cons, List.not_mem_nil, or_false, not_or]; rw [sz]; exact ⟨Nat.ne_of_lt lt1, Nat.ne_of_lt (Nat.lt_succ_of_lt lt1)⟩) (Heap.get?_push_of_some _ (Heap.get?_push_of_some _ e))
    · match r₂, hr₂ with
      | .error e, hr₂ => exact hr₂
      | .ok (.ret r), hr₂ =>
        obtain ⟨rfl, h', tk, c, rfl, hS', hc', hk'⟩ := hr₂
        repeat (any_goals (first | assumption | wp_step))
        exact k _ _ _ hS' hc' hk'
variable {X : Cx}
/-- set(xs), ints -/
def rSetOf (K : PySem.W.Frag) (w : World) : List V → Hp → VK → Prop := fun vs H Q => ∃ (a : Addr) (ns : List Int), vs = [V.ref a] ∧ SqL K H a (ns.map V.int) ∧ ns.length + 1 < scanBound ∧ ∀ (p : Addr) (n : Nat), H p = none → n ≤ ns.length → Q (.ref p) (upd H p (SetO w p (fun j => decide (j ∈ ns)) n))
theorem cr_setOf (hc : X.calm = true) : CallR X (.type "set") (rSetOf X.K X.w) := by
  intro pins s σ H xs us Q I r h
  obtain ⟨a, ns, rfl, hs, hb, q⟩ := h
  obtain ⟨its, rv, hl, hz⟩ := I.list hs
  rw [Vals.ref1 r]
  refine set_of_list ns (I.ok.hd hc) hl.isList (by simpa using ints_of_vals rv) hb fun h' tk c R hc' keep => ?_
  exact ⟨.ref _, upd H s.heap.objs.size (SetO X.w s.heap.objs.size (fun j => decide (j ∈ ns)) c), I.laid (t' := tk) keep (Nat.le_refl _) (setO_new R), rfl, q _ _ (I.hok.fresh (Nat.le_refl _)) hc'⟩
end
end L2

/-! Fx: sorted, of lists, dicts, sets -/
namespace Fx
open PySem PySem.Spec PyProof.Rows L2
variable {X : Cx} {W : WX}
/-! ### the results, plainly -/
def sortZ (ns : List Int) : List Int := ns.mergeSort fun a b => decide (a ≤ b)
theorem sortZ_perm (ns : List Int) : (sortZ ns).Perm ns := List.mergeSort_perm ns _
theorem sortZ_le (ns : List Int) : (sortZ ns).Pairwise (· ≤ ·) := by
  have := List.pairwise_mergeSort (le := fun a b : Int => decide (a ≤ b)) (fun a b c h1 h2 => by simp at *; omega) (fun a b => by simp; omega) ns
  exact this.imp fun h => by simpa using h
theorem eq_sortZ {ns ms : List Int} (hp : ms.Perm ns) (hs : ms.Pairwise (· ≤ ·)) : ms = sortZ ns :=
  List.Perm.eq_of_pairwise (fun _ _ _ _ a b => Int.le_antisymm a b) hs (sortZ_le ns) (hp.trans (sortZ_perm ns).symm)
def insZ (x : Int) : List Int → List Int
  | [] => [x]
  | y :: r => if x < y then x :: y :: r else if x = y then y :: r else y :: insZ x r
def setZ (ns : List Int) : List Int := ns.foldr insZ []
theorem mem_insZ {x z : Int} : ∀ {ns : List Int}, z ∈ insZ x ns ↔ z = x ∨ z ∈ ns
  | [] => by simp [insZ]
  | y :: r => by
    unfold insZ
    split
    · simp
    · split
      · next h => subst h; simp
      · rw [List.mem_cons, mem_insZ (ns := r), List.mem_cons]
        constructor
        · rintro (h | h | h)
          · exact .inr (.inl h)
          · exact .inl h
          · exact .inr (.inr h)
        · rintro (h | h | h)
          · exact .inr (.inl h)
          · exact .inl h
          · exact .inr (.inr h)
theorem insZ_lt {x : Int} : ∀ {ns : List Int}, ns.Pairwise (· < ·) → (insZ x ns).Pairwise (· < ·)
  | [], _ => by simp [insZ]
  | y :: r, h => by
    have ⟨h1, h2⟩ := List.pairwise_cons.mp h
    unfold insZ
    split
    · next c => exact List.pairwise_cons.mpr ⟨fun z hz => by
        rcases List.mem_cons.mp hz with e | e
        · rw [e]; exact c
        · exact Int.lt_trans c (h1 z e), h⟩
    · split
      · exact h
      · next c c2 => exact List.pairwise_cons.mpr ⟨fun z hz => by
          rcases mem_insZ.mp hz with e | e
          · rw [e]; omega
          · exact h1 z e, insZ_lt h2⟩
theorem mem_setZ {z : Int} (ns : List Int) : z ∈ setZ ns ↔ z ∈ ns := by
  unfold setZ
  induction ns with
  | nil => simp
  | cons x r ih => rw [List.foldr_cons, mem_insZ, ih, List.mem_cons]
theorem setZ_lt (ns : List Int) : (setZ ns).Pairwise (· < ·) := by
  unfold setZ
  induction ns with
  | nil => exact List.Pairwise.nil
  | cons x r ih => rw [List.foldr_cons]; exact insZ_lt ih
theorem insZ_len (x : Int) : ∀ ns : List Int, (insZ x ns).length ≤ ns.length + 1
  | [] => by simp [insZ]
  | y :: r => by
    have := insZ_len x r
    unfold insZ
    split
    · simp
    · split
      · simp
      · simp only [List.length_cons]; omega
theorem setZ_len (ns : List Int) : (setZ ns).length ≤ ns.length := by
  unfold setZ
  induction ns with
  | nil => simp
  | cons x r ih =>
    rw [List.foldr_cons, List.length_cons]
    exact Nat.le_trans (insZ_len _ _) (by omega)
theorem ltZ_ext : ∀ {as bs : List Int}, as.Pairwise (· < ·) → bs.Pairwise (· < ·) → (∀ z, z ∈ as ↔ z ∈ bs) → as = bs
  | [], [], _, _, _ => rfl
  | [], b :: bs, _, _, h => absurd ((h b).mpr List.mem_cons_self) (by simp)
  | a :: as, [], _, _, h => absurd ((h a).mp List.mem_cons_self) (by simp)
  | a :: as, b :: bs, ha, hb, h => by
    have ⟨a1, a2⟩ := List.pairwise_cons.mp ha
    have ⟨b1, b2⟩ := List.pairwise_cons.mp hb
    have e : a = b := by
      rcases List.mem_cons.mp ((h a).mp List.mem_cons_self) with e | e
      · exact e
      · rcases List.mem_cons.mp ((h b).mpr List.mem_cons_self) with e2 | e2
        · exact e2.symm
        · have := a1 b e2; have := b1 a e; omega
    subst e
    rw [ltZ_ext a2 b2 fun z => ?_]
    constructor
    · intro hz
      rcases List.mem_cons.mp ((h z).mp (List.mem_cons_of_mem _ hz)) with e | e
      · have := a1 z hz; omega
      · exact e
    · intro hz
      rcases List.mem_cons.mp ((h z).mpr (List.mem_cons_of_mem _ hz)) with e | e
      · have := b1 z hz; omega
      · exact e
theorem eq_setZ {ns ms : List Int} (hs : ms.Pairwise (· < ·)) (h : ∀ z, z ∈ ms ↔ z ∈ ns) : ms = setZ ns := ltZ_ext hs (setZ_lt ns) fun z => by rw [h, mem_setZ]
theorem sortZ_lt {ns : List Int} (h : ns.Nodup) : (sortZ ns).Pairwise (· < ·) := by
  have h1 := sortZ_le ns
  have h2 : (sortZ ns).Pairwise (· ≠ ·) := (sortZ_perm ns).nodup_iff.mpr h
  exact (h1.and h2).imp fun ⟨a, b⟩ => by omega
theorem sortZ_set {ns : List Int} (h : ns.Nodup) : sortZ ns = setZ ns := eq_setZ (sortZ_lt h) fun z => (sortZ_perm ns).mem_iff
/-! texts -/
def leT (a b : Str) : Bool := !decide (b.cps.toList < a.cps.toList)
def sortT (xs : List Str) : List Str := xs.mergeSort leT
theorem leT_tr (a b c : Str) (h1 : leT a b = true) (h2 : leT b c = true) : leT a c = true := by
  unfold leT at *
  simp only [Bool.not_eq_true', decide_eq_false_iff_not] at *
  exact fun h => h2 (by
    rcases Classical.em (b.cps.toList < a.cps.toList) with z | z
    · exact absurd z h1
    · exact Std.lt_of_lt_of_le h (List.not_lt.mp z))
theorem leT_tot (a b : Str) : (leT a b || leT b a) = true := by
  unfold leT
  by_cases h : b.cps.toList < a.cps.toList
  · have : ¬ a.cps.toList < b.cps.toList := fun z => absurd (List.lt_trans h z) (List.lt_irrefl _)
    simp [h, this]
  · simp [h]
theorem leT_anti {a b : Str} (h1 : leT a b = true) (h2 : leT b a = true) : a = b := by
  unfold leT at *
  simp only [Bool.not_eq_true', decide_eq_false_iff_not] at *
  have := List.le_antisymm (List.not_lt.mp h1) (List.not_lt.mp h2)
  cases a; cases b
  congr 1
  exact Array.toList_inj.mp this
theorem sortT_perm (xs : List Str) : (sortT xs).Perm xs := List.mergeSort_perm xs _
theorem sortT_le (xs : List Str) : (sortT xs).Pairwise fun a b => leT a b = true := List.pairwise_mergeSort leT_tr leT_tot xs
theorem rising_pw : ∀ (x : Str) (xs : List Str), risingS x xs = true → (x :: xs).Pairwise fun a b => leT a b = true
  | x, [], _ => List.pairwise_singleton _ _
  | x, y :: r, h => by
    have h : (!ltCps y.cps.toList x.cps.toList && risingS y r) = true := h
    rw [Bool.and_eq_true] at h
    have ih := rising_pw y r h.2
    have e : leT x y = true := by unfold leT; rw [← ltCps_eq]; exact h.1
    refine List.pairwise_cons.mpr ⟨fun z hz => ?_, ih⟩
    rcases List.mem_cons.mp hz with q | q
    · rw [q]; exact e
    · exact leT_tr x y z e ((List.pairwise_cons.mp ih).1 z q)
theorem eq_sortT {xs ys : List Str} (hp : ys.Perm xs) (hs : sortedS ys = true) : ys = sortT xs := by
  refine List.Perm.eq_of_pairwise (fun _ _ _ _ a b => leT_anti a b) ?_ (sortT_le xs) (hp.trans (sortT_perm xs).symm)
  cases ys with
  | nil => exact List.Pairwise.nil
  | cons y r => exact rising_pw y r hs
/-! ### sorted(d) -/
def intsOf : List D → Option (List Int)
  | [] => some []
  | .int i :: r => (intsOf r).map (i :: ·)
  | _ => none
def intKs : List (Key × D) → Option (List Int)
  | [] => some []
  | (.inl i, _) :: r => (intKs r).map (i :: ·)
  | _ => none
def strKs : List (Key × D) → Option (List Str)
  | [] => some []
  | (.inr x, _) :: r => (strKs r).map (x :: ·)
  | _ => none
theorem ints_rep' {K : PySem.W.Frag} {w : Wd} : ∀ {vs : List V} {ds : List D} {ns : List Int}, RepL K w vs ds → intsOf ds = some ns → vs = ns.map V.int
  | _, _, ns, .nil, h => by cases h; rfl
  | _, _, ns, .cons (d := d) (ds := ds) r t, h => by
    cases r with
    | int i =>
      unfold intsOf at h
      cases e : intsOf ds with
      | none => rw [e] at h; cases h
      | some zs => rw [e] at h; cases h; rw [ints_rep' t e]; rfl
    | _ => cases h
theorem intKs_of : ∀ {kvs : List (Key × D)} {ns : List Int}, intKs kvs = some ns → kvs.map (·.1) = ns.map Sum.inl
  | [], ns, h => by cases h; rfl
  | (.inl i, d) :: r, ns, h => by
    unfold intKs at h
    cases e : intKs r with
    | none => rw [e] at h; cases h
    | some zs => rw [e] at h; cases h; rw [List.map_cons, intKs_of e]; rfl
  | (.inr x, d) :: r, ns, h => by cases h
theorem strKs_of : ∀ {kvs : List (Key × D)} {ns : List Str}, strKs kvs = some ns → kvs.map (·.1) = ns.map Sum.inr
  | [], ns, h => by cases h; rfl
  | (.inr i, d) :: r, ns, h => by
    unfold strKs at h
    cases e : strKs r with
    | none => rw [e] at h; cases h
    | some zs => rw [e] at h; cases h; rw [List.map_cons, strKs_of e]; rfl
  | (.inl x, d) :: r, ns, h => by cases h
/-- sorted of a list of ints (any many), of texts, of a dict with ints or texts as keys (fewer than 64) -/
def sortI1 : List D → M Cell
  | [d] => fun s => match lstOf s d with
    | some ds => match intsOf ds with
      | some ns => .ok (.lst ((sortZ ns).map D.int)) s
      | none => .bad
    | none => .bad
  | _ => fail
def sortI2 : List D → M Cell
  | [d] => fun s => match lstOf s d with
    | some ds => match strsOf ds with
      | some xs => .ok (.lst ((sortT xs).map D.str)) s
      | none => .bad
    | none => .bad
  | _ => fail
def sortI3 : List D → M Cell
  | [d] => fun s => match dctR s d with
    | some kvs => match intKs kvs with
      | some ns => if ns.length < 64 then .ok (.lst ((sortZ ns).map D.int)) s else .bad
      | none => .bad
    | none => .bad
  | _ => fail
def sortI4 : List D → M Cell
  | [d] => fun s => match dctR s d with
    | some kvs => match strKs kvs with
      | some ns => if ns.length < 64 then .ok (.lst ((sortT ns).map D.str)) s else .bad
      | none => .bad
    | none => .bad
  | _ => fail
def sortedM (ds : List D) : M Cell := altM (altM (sortI1 ds) (sortI2 ds)) (altM (sortI3 ds) (sortI4 ds))
theorem RS.giveL {K : PySem.W.Frag} {w : Wd} {H : Hp} {σ : L2.St} {s : S} {vs : List V} {ds : List D} {Q : V → Hp → Prop} (R : RS K w H σ s) (r : RepL K w vs ds) (p : Post K W (pN K) w H σ (.ok (.lst ds) s) Q) {q : Addr} (hq : H q = none) : Q (.ref q) (upd H q (.lst vs)) :=
  p w _ _ (Le.laid hq) (R.laid hq) ⟨q, rfl, (R.fresh hq).1, (R.fresh hq).2, ⟨_, upd_same, r⟩, hq⟩
theorem repInts {K : PySem.W.Frag} {w : Wd} : ∀ ns : List Int, RepL K w (ns.map V.int) (ns.map D.int)
  | [] => .nil
  | n :: r => .cons (.int n) (repInts r)
theorem repStrs {K : PySem.W.Frag} {w : Wd} : ∀ ns : List Str, RepL K w (ns.map V.str) (ns.map D.str)
  | [] => .nil
  | n :: r => .cons (.str n) (repStrs r)
theorem rc_sort1 : RCalN X (rSortedI X.K) sortI1 := by
  intro W w H σ s vs ds Q R r p
  unfold sortI1 at p
  split at p
  · next d =>
    obtain ⟨v, rfl, rv⟩ := one_of r
    split at p
    · next es he =>
      split at p
      · next ns hn =>
        obtain ⟨a, us, rfl, h1, h2⟩ := R.list rv he
        rw [ints_rep' h2 hn] at h1
        refine ⟨a, ns, rfl, h1, fun ms q hp hs hq => ?_⟩
        rw [eq_sortZ hp hs]
        exact R.giveL (repInts _) p hq
      · exact p.elim
    · exact p.elim
  · exact p.elim
/-- sorted(xs), texts, any number of them -/
def rSortedSA (K : PySem.W.Frag) : List V → Hp → VK → Prop := fun vs H Q => ∃ (a : Addr) (xs : List Str), vs = [V.ref a] ∧ SqL K H a (xs.map V.str) ∧ ∀ p, H p = none → Q (.ref p) (upd H p (.lst ((sortT xs).map V.str)))
theorem each_strs : ∀ {xs : List Str} {us : List Value}, StrsAre us xs → PySem.W.EachIs (fun v x => ∃ t, v = Value.str x t) us xs
  | _, _, .nil => .nil
  | _, _, .cons _ t r => .cons ⟨t, rfl⟩ (each_strs r)
theorem strs_each : ∀ {us : List Value} {xs : List Str}, PySem.W.EachIs (fun v x => ∃ t, v = Value.str x t) us xs → StrsAre us xs
  | _, _, .nil => .nil
  | _, _, .cons ⟨t, h⟩ r => by subst h; exact .cons _ t (strs_each r)
theorem cr_sortedSA {X : Cx} (hu : X.A.units + 64 < cLine) : CallR X (.builtin "sorted") (rSortedSA X.K) := by
  intro pins s σ H vs us Q I r h
  obtain ⟨a, xs, rfl, hs, q⟩ := h
  obtain ⟨its, rv, hl, hz⟩ := I.list hs
  rw [Vals.ref1 r]
  have e := each_strs rv.strs
  rw [List.length_map] at hz
  refine PySem.W.sorted_data (enc := fun x : Str => PyData.str x) hl.isList e (e.mono fun v x ⟨t, h⟩ => ⟨[], by rw [h]; exact .str x t⟩) (PySem.W.AllAlike.of fun _ _ => rfl) (PySem.W.Sortable.others fun b => ⟨(by intro z; cases z), (by intro xs z; cases z)⟩) hz (fun b _ => by show X.A.units + 2 + 0 < cLine; omega) fun out h1 h2 => ?_
  have e2 : (PySem.W.dataLe false fun x : Str => PyData.str x) = leT := by
    rw [PySem.W.dataLe_str (fun x : Str => x)]
    funext a b
    unfold leT
    rw [PySem.W.not_lt_str]
  rw [e2] at h2
  have h2 : PySem.W.EachIs (fun v x => ∃ t, v = Value.str x t) out (sortT xs) := h2
  obtain ⟨ep, he'⟩ := PyProof.Rows.sortedAll_at s.heap its out.toArray
  have hlen : ((sortT xs).map V.str).length ≤ sizeLine := by rw [List.length_map, (sortT_perm xs).length_eq]; exact hz
  exact ⟨.ref _, upd H (s.heap.objs.size + 1) (.lst ((sortT xs).map V.str)), I.laid (t' := s.toks) (fun _ _ => PyProof.Rows.sortedAll_old) (Nat.le_succ _) ⟨hlen, out, ep, vals_of_strs (strs_each h2), he'⟩, rfl, q _ (I.hok.fresh (Nat.le_succ _))⟩
theorem rc_sort2 : RCalN X (rSortedSA X.K) sortI2 := by
  intro W w H σ s vs ds Q R r p
  unfold sortI2 at p
  split at p
  · next d =>
    obtain ⟨v, rfl, rv⟩ := one_of r
    split at p
    · next es he =>
      split at p
      · next ns hn =>
        obtain ⟨a, us, rfl, h1, h2⟩ := R.list rv he
        rw [strs_rep h2 hn] at h1
        exact ⟨a, ns, rfl, h1, fun q hq => R.giveL (repStrs _) p hq⟩
      · exact p.elim
    · exact p.elim
  · exact p.elim
section
variable {e : Expr} {fs : M (List D)} {p pos : Pos}
theorem dn_sorted (hu : X.A.units + 64 < cLine) (hm : X.mg "sorted" = none) (ha : DA X W [e] fs) (hc : X.calm = true := by rfl) (hg : Gl X "sorted" := by rfl) (he : starEach [e] X.env = (false, eval e X.env) :: starEach [] X.env := by rfl) (hpl : (backTo pos (starEach [] X.env)).any (·.1) = false := by rfl) :
    DN X W (.Call (.Name "sorted" p) [e] [] pos) (bnd fs sortedM) := by
  have hv : bootBuiltins "sorted" = some (.builtin "sorted") := by decide +kernel
  have c1 : DN X W (.Call (.Name "sorted" p) [e] [] pos) (bnd fs sortI1) := dn_callB cr_sortedI rc_sort1 hm ha hv hg (by decide) (by decide) he hpl
  have c2 : DN X W (.Call (.Name "sorted" p) [e] [] pos) (bnd fs sortI2) := dn_callB (cr_sortedSA hu) rc_sort2 hm ha hv hg (by decide) (by decide) he hpl
  have c3 : DN X W (.Call (.Name "sorted" p) [e] [] pos) (bnd fs sortI3) := dn_callB (call_sortedDI hc) (fun W w H σ s vs ds Q R r p => by
    unfold sortI3 at p
    split at p
    · next d =>
      obtain ⟨v, rfl, rv⟩ := one_of r
      split at p
      · next kvs he =>
        split at p
        · next ns hn =>
          split at p
          · next hl =>
            obtain ⟨a, us, rfl, h1, h2⟩ := R.dictR rv he
            refine ⟨a, us, ns, rfl, h1, by rw [RepK.keys h2]; exact intKs_of hn, hl, fun ms q hp hs hq => ?_⟩
            rw [eq_sortZ hp hs]
            exact R.giveL (repInts _) p hq
          · exact p.elim
        · exact p.elim
      · exact p.elim
    · exact p.elim) hm ha hv hg (by decide) (by decide) he hpl
  have c4 : DN X W (.Call (.Name "sorted" p) [e] [] pos) (bnd fs sortI4) := dn_callB (call_sortedD hc) (fun W w H σ s vs ds Q R r p => by
    unfold sortI4 at p
    split at p
    · next d =>
      obtain ⟨v, rfl, rv⟩ := one_of r
      split at p
      · next kvs he =>
        split at p
        · next ns hn =>
          split at p
          · next hl =>
            obtain ⟨a, us, rfl, h1, h2⟩ := R.dictR rv he
            refine ⟨a, us, ns, rfl, h1, by rw [RepK.keys h2]; exact strKs_of hn, hl, fun ms q hp hs hq => ?_⟩
            rw [eq_sortT hp hs]
            exact R.giveL (repStrs _) p hq
          · exact p.elim
        · exact p.elim
      · exact p.elim
    · exact p.elim) hm ha hv hg (by decide) (by decide) he hpl
  have bo : ∀ (f g : List D → M Cell) (s : S), bnd fs (fun ds => altM (f ds) (g ds)) s = bnd fs f s ∨ bnd fs (fun ds => altM (f ds) (g ds)) s = bnd fs g s := fun f g s => by
    unfold bnd
    cases fs s with
    | bad => exact .inl rfl
    | exc e s' => exact .inl rfl
    | ok ds s' => exact alt_is _ _ s'
  exact dn_or2 (dn_or2 c1 c2 (bo _ _)) (dn_or2 c3 c4 (bo _ _)) (bo _ _)
/-- sorted(set(xs)), fewer than 64 ints -/
def sortSetM (d : D) : M Cell := fun s => match lstOf s d with
  | some ds => match intsOf ds with
    | some ns => if ns.length < 64 then .ok (.lst ((setZ ns).map D.int)) s else .bad
    | none => .bad
  | none => .bad
theorem dn_sortSet {q q2 : Pos} {fe : M D} (hm : X.mg "sorted" = none) (hm2 : X.mg "set" = none) (ha : DE X W e fe) (hc : X.calm = true := by rfl) (hg : Gl X "sorted" := by rfl) (hg2 : Gl X "set" := by rfl) (he : starEach [e] X.env = (false, eval e X.env) :: starEach [] X.env := by rfl) (hpl : (backTo q2 (starEach [] X.env)).any (·.1) = false := by rfl)
    (he2 : starEach [Expr.Call (.Name "set" q) [e] [] q2] X.env = (false, eval (Expr.Call (.Name "set" q) [e] [] q2) X.env) :: starEach [] X.env := by rfl) (hpl2 : (backTo pos (starEach [] X.env)).any (·.1) = false := by rfl) :
    DN X W (.Call (.Name "sorted" p) [.Call (.Name "set" q) [e] [] q2] [] pos) (bnd fe sortSetM) := by
  obtain ⟨t, pe, r⟩ := ha
  refine ⟨_, pe_callB (cr_sortedSet hc) hg hm (by decide +kernel) (pa_cons (pe_callTy (cr_setOf hc) hg2 hm2 (by decide +kernel) (pa_cons pe pa_nil he) (by decide) (by decide) he hpl) pa_nil he2) (by decide) (by decide) he2 hpl2, fun w H σ s Q R z => ?_⟩
  refine r.bnd R z fun d s1 w1 H1 v l1 R1 r1 p1 => ?_
  unfold sortSetM at p1
  split at p1
  · next es hes =>
    split at p1
    · next ns hn =>
      split at p1
      · next hl =>
        obtain ⟨a, us, rfl, h1, h2⟩ := R1.list r1 hes
        rw [ints_rep' h2 hn] at h1
        refine ⟨a, ns, rfl, h1, Nat.lt_of_lt_of_le (show ns.length + 1 < 65 by omega) (by decide), fun q n hq hn2 => ?_⟩
        refine ⟨q, _, n, rfl, upd_same, by omega, fun ms q3 hlt hmem hlen hq3 => ?_⟩
        have e : ms = setZ ns := eq_setZ hlt fun z => by rw [hmem]; exact decide_eq_true_iff
        rw [e]
        have R2 := R1.laid (o := SetO X.w q (fun j => decide (j ∈ ns)) n) hq
        have p2 := p1.up (Le.laid (w := w1) (o := SetO X.w q (fun j => decide (j ∈ ns)) n) hq)
        exact R2.giveL (repInts _) p2 hq3
      · exact p1.elim
    · exact p1.elim
  · exact p1.elim
end
end Fx

/-! Fx: odds and ends for the printed texts -/
namespace Fx
open PySem PySem.Spec PyProof.Rows L2
variable {X : Cx} {W : WX}
theorem ds_never {st : Stmt} : DS X W st fail := ⟨_, ps_never, fun w H σ s D R z => z.elim⟩
/-! int(flag), int(n) -/
def intM : List D → M D
  | [.int i] => ret (.int i)
  | [.bl b] => ret (.int (b2i b))
  | _ => fail
theorem rc_int : RCal X (fun xs H Q => (∃ i, xs = [.int i] ∧ Q (.int i) H) ∨ ∃ k, xs = [.bl k] ∧ Q (.int (b2i k)) H) intM := by
  intro W w H σ s vs ds Q R r p
  unfold intM at p
  split at p
  · obtain ⟨v, rfl, rv⟩ := one_of r
    cases rv
    exact .inl ⟨_, rfl, Post.here p R (Rep.int _)⟩
  · obtain ⟨v, rfl, rv⟩ := one_of r
    cases rv
    exact .inr ⟨_, rfl, Post.here p R (Rep.int _)⟩
  · exact p.elim
/-! list(reversed(xs)) -/
end Fx

/-! Fx: equations for objects, dicts, and the like -/
namespace Fx
open PySem PySem.Spec PyProof.Rows L2
/-! one of two -/
def Res.alt {α : Type} (r q : Res α) : Res α := match r with
  | .bad => q
  | r => r
theorem x_alt {α : Type} {f g : M α} {s : S} : altM f g s = (f s).alt (g s) := by unfold altM Res.alt; rfl
theorem x_altO {α : Type} {a : α} {s : S} {q : Res α} : (Res.ok a s).alt q = .ok a s := nr rfl
theorem x_altB {α : Type} {q : Res α} : (Res.bad : Res α).alt q = q := nr rfl
theorem x_altI {α : Type} {c : Prop} [Decidable c] {a b q : Res α} : (if c then a else b).alt q = if c then a.alt q else b.alt q := by split <;> rfl
/-! cells -/
theorem look_app {vh : List Cell} {i : Nat} {c : Cell} (h : vh[i]? = some c) (more : List Cell) : (vh ++ more)[i]? = some c := by
  rw [List.getElem?_append_left (List.getElem?_eq_some_iff.mp h).1]; exact h
theorem x_at0 {α : Type} {vh r : List α} {c : α} : (vh ++ c :: r)[vh.length]? = some c := by simp
theorem x_at1 {α : Type} {vh r : List α} {a c : α} : (vh ++ a :: c :: r)[vh.length + 1]? = some c := by
  rw [List.getElem?_append_right (by omega)]; simp
theorem x_at2 {α : Type} {vh r : List α} {a b c : α} : (vh ++ a :: b :: c :: r)[vh.length + 2]? = some c := by
  rw [List.getElem?_append_right (by omega)]; simp
theorem x_at3 {α : Type} {vh r : List α} {a b d c : α} : (vh ++ a :: b :: d :: c :: r)[vh.length + 3]? = some c := by
  rw [List.getElem?_append_right (by omega)]; simp
theorem x_st0 {α : Type} {vh r : List α} {a c : α} : (vh ++ a :: r).set vh.length c = vh ++ c :: r := by
  rw [List.set_append_right _ _ (by omega)]; simp
theorem x_st1 {α : Type} {vh r : List α} {a b c : α} : (vh ++ a :: b :: r).set (vh.length + 1) c = vh ++ a :: c :: r := by
  rw [List.set_append_right _ _ (by omega)]; simp
theorem x_st2 {α : Type} {vh r : List α} {a b d c : α} : (vh ++ a :: b :: d :: r).set (vh.length + 2) c = vh ++ a :: b :: c :: r := by
  rw [List.set_append_right _ _ (by omega)]; simp
/-! objects -/
def fldR (x f : Str) (o : Option Cell) (s : S) : Res D := match o with
  | some (.obj y fs) => if y = x then Res.opt (fs.lookup f) s else .bad
  | _ => .bad
theorem x_fld {x f : Str} {n : Nat} {s : S} : fldM x f (.cell n) s = fldR x f s.vh[n]? s := by
  unfold fldM fldR objOf
  dsimp only
  cases s.vh[n]? with
  | none => rfl
  | some c =>
    cases c with
    | obj y fs =>
      dsimp only
      by_cases h : y = x
      · rw [if_pos h, if_pos h]; dsimp only; cases fs.lookup f <;> rfl
      · rw [if_neg h, if_neg h]
    | _ => rfl
def stoR (x f : Str) (v : D) (n : Nat) (o : Option Cell) (s : S) : Res Out := match o with
  | some (.obj y fs) => if y = x then (if fs.length < 1000 then .ok .nx ⟨s.loc, s.vh.set n (.obj y (putD f v fs))⟩ else .bad) else .bad
  | _ => .bad
theorem x_fldS {x f : Str} {fo fv : M D} {s : S} : fldS x f fo fv s = (fv s).then' fun v => bnd fo fun d => stoM x f v d := nr rfl
theorem x_sto {x f : Str} {v : D} {n : Nat} {s : S} : stoM x f v (.cell n) s = stoR x f v n s.vh[n]? s := by
  have e : objOf s x (.cell n) = match s.vh[n]? with | some (.obj y fs) => (if y = x then some fs else none) | _ => none := rfl
  unfold stoM stoR
  rw [e]
  cases s.vh[n]? with
  | none => rfl
  | some c =>
    cases c with
    | obj y fs =>
      dsimp only
      by_cases h : y = x
      · subst h; rw [if_pos rfl, if_pos rfl]
      · rw [if_neg h, if_neg h]
    | _ => rfl
def metK {α : Type} (x m : Str) (fs : M (List D)) (g : List D → M α) (d : D) : M α := fun s => match objOf s x d with
  | some gs => if gs.lookup m = none then bnd fs (fun ds => g (d :: ds)) s else .bad
  | none => .bad
def metR {α : Type} (x m : Str) (o : Option Cell) (r : Res α) : Res α := match o with
  | some (.obj y fs) => if y = x then (if fs.lookup m = none then r else .bad) else .bad
  | _ => .bad
theorem x_met {α : Type} {x m : Str} {fo : M D} {fs : M (List D)} {g : List D → M α} {s : S} : metM x m fo fs g s = (fo s).then' (metK x m fs g) := nr rfl
theorem x_metK {α : Type} {x m : Str} {fs : M (List D)} {g : List D → M α} {n : Nat} {s : S} : metK x m fs g (.cell n) s = metR x m s.vh[n]? ((fs s).then' fun ds => g (.cell n :: ds)) := by
  unfold metK metR objOf
  dsimp only
  cases s.vh[n]? with
  | none => rfl
  | some c =>
    cases c with
    | obj y fs =>
      dsimp only
      by_cases h : y = x
      · rw [if_pos h, if_pos h]; rfl
      · rw [if_neg h, if_neg h]
    | _ => rfl
def metK0 {α : Type} (x m : Str) (g : List D → M α) (d : D) : M α := fun s => match objOf s x d with
  | some gs => if gs.lookup m = none then g [d] s else .bad
  | none => .bad
theorem x_met0 {α : Type} {x m : Str} {fo : M D} {g : List D → M α} {s : S} : metM0 x m fo g s = (fo s).then' (metK0 x m g) := nr rfl
theorem x_metK0 {α : Type} {x m : Str} {g : List D → M α} {n : Nat} {s : S} : metK0 x m g (.cell n) s = metR x m s.vh[n]? (g [.cell n] s) := by
  unfold metK0 metR objOf
  dsimp only
  cases s.vh[n]? with
  | none => rfl
  | some c =>
    cases c with
    | obj y fs =>
      dsimp only
      by_cases h : y = x
      · rw [if_pos h, if_pos h]
      · rw [if_neg h, if_neg h]
    | _ => rfl
/-! calls -/
def callNR (o : Option Cell) (s : S) : Res Cell := match o with
  | some c => .ok c s
  | none => .bad
theorem x_callN {n : Nat} {F : Nf} {ds : List D} {s : S} : callN n F ds s = if ds.length = n then callNR (F ds s.vh) s else .bad := nr rfl
theorem x_callNR {c : Cell} {s : S} : callNR (some c) s = .ok c s := nr rfl
def callSR (o : Option (D × List Cell)) (s : S) : Res D := match o with
  | some (d, vh) => .ok d ⟨s.loc, vh⟩
  | none => .bad
theorem x_callS {n : Nat} {F : Sf} {ds : List D} {s : S} : callS n F ds s = if ds.length = n then callSR (F ds s.vh) s else .bad := nr rfl
theorem x_callSR {d : D} {vh : List Cell} {s : S} : callSR (some (d, vh)) s = .ok d ⟨s.loc, vh⟩ := nr rfl
def mkR (o : Option (D × List Cell)) (n : Nat) (s : S) : Res D := match o with
  | some (.non, vh) => .ok (.cell n) ⟨s.loc, vh⟩
  | _ => .bad
theorem x_make {x : Str} {n : Nat} {F : Sf} {ds : List D} {s : S} : makeM x n F ds s = if ds.length + 1 = n then mkR (F (.cell s.vh.length :: ds) (s.vh ++ [.obj x []])) s.vh.length s else .bad := by
  unfold makeM mkR
  split
  · generalize F (.cell s.vh.length :: ds) (s.vh ++ [.obj x []]) = r
    cases r with
    | none => rfl
    | some p => obtain ⟨d, vh⟩ := p; cases d <;> rfl
  · rfl
theorem x_mkR {n : Nat} {vh : List Cell} {s : S} : mkR (some (.non, vh)) n s = .ok (.cell n) ⟨s.loc, vh⟩ := nr rfl
/-! dicts -/
def ixCR (o : Option Cell) (i : Int) (s : S) : Res D := match o with
  | some (.dct kvs) => Res.opt (valA kvs (.inl i)) s
  | some (.dctL _ _ kvs) => Res.opt (valA kvs (.inl i)) s
  | some (.lst ds) => Res.opt (atI ds i) s
  | _ => .bad
theorem x_ixC {n : Nat} {i : Int} {s : S} : ixAM (.cell n) (.int i) s = ixCR s.vh[n]? i s := by
  unfold ixAM altM ixCR dgetM dctR ixM lstOf keyD
  dsimp only
  cases s.vh[n]? with
  | none => rfl
  | some c =>
    cases c with
    | dct kvs => dsimp only; cases valA kvs (.inl i) <;> rfl
    | dctL _ _ kvs => dsimp only; cases valA kvs (.inl i) <;> rfl
    | lst ds => dsimp only; cases atI ds i <;> rfl
    | obj _ _ => rfl
    | dctN _ _ => rfl
theorem x_ixCd {kvs : List (Key × D)} {i : Int} {s : S} : ixCR (some (.dct kvs)) i s = Res.opt (valA kvs (.inl i)) s := nr rfl
theorem x_ixCl {ds : List D} {i : Int} {s : S} : ixCR (some (.lst ds)) i s = Res.opt (atI ds i) s := nr rfl
theorem x_ixAL {ds : List D} {i : Int} {s : S} : ixAM (.lst ds) (.int i) s = Res.opt (atI ds i) s := by
  show (altM (dgetM (.lst ds) (.int i)) (ixM (.lst ds) (.int i))) s = _
  rw [show altM (dgetM (.lst ds) (.int i)) (ixM (.lst ds) (.int i)) s = ixM (.lst ds) (.int i) s from rfl, x_ixL]
theorem x_ixAT {ds : List D} {i : Int} {s : S} : ixAM (.tup ds) (.int i) s = Res.opt (atI ds i) s := by
  rw [show ixAM (.tup ds) (.int i) s = ixM (.tup ds) (.int i) s from rfl, x_ixT]
theorem x_ixAS {x : Str} {i : Int} {s : S} : ixAM (.str x) (.int i) s = ixM (.str x) (.int i) s := nr rfl
def dstR (o : Option Cell) (x : Str) (s : S) : Res D := match o with
  | some (.dct kvs) => Res.opt (valA kvs (.inr x)) s
  | some (.dctL _ _ kvs) => Res.opt (valA kvs (.inr x)) s
  | _ => .bad
theorem x_ixD {n : Nat} {x : Str} {s : S} : ixAM (.cell n) (.str x) s = dstR s.vh[n]? x s := by
  unfold ixAM altM dstR dgetM dctR ixM keyD
  dsimp only
  cases s.vh[n]? with
  | none => rfl
  | some c =>
    cases c with
    | dct kvs => dsimp only; cases valA kvs (.inr x) <;> rfl
    | dctL _ _ kvs => dsimp only; cases valA kvs (.inr x) <;> rfl
    | lst ds => rfl
    | obj _ _ => rfl
    | dctN _ _ => rfl
theorem x_dstR {kvs : List (Key × D)} {x : Str} {s : S} : dstR (some (.dct kvs)) x s = Res.opt (valA kvs (.inr x)) s := nr rfl
def keyO (o : Option Key) : Key := o.getD (.inl 0)
def inCR (b : Bool) (o : Option Cell) (k : Key) (q : Res D) (s : S) : Res D := match o with
  | some (.dct kvs) => .ok (.bl ((valA kvs k).isSome == b)) s
  | some (.dctL _ _ kvs) => .ok (.bl ((valA kvs k).isSome == b)) s
  | _ => q
theorem x_inC {n : Nat} {i : Int} {s : S} : inAM (.int i) (.cell n) s = inCR true s.vh[n]? (.inl i) (inQ true (.int i) (.cell n) s) s := by
  unfold inAM altM inCR dinM dctR keyD
  dsimp only
  cases s.vh[n]? with
  | none => rfl
  | some c => cases c <;> rfl
theorem x_ninC {n : Nat} {i : Int} {s : S} : ninAM (.int i) (.cell n) s = inCR false s.vh[n]? (.inl i) (inQ false (.int i) (.cell n) s) s := by
  unfold ninAM altM inCR dinM dctR keyD
  dsimp only
  cases s.vh[n]? with
  | none => rfl
  | some c => cases c <;> rfl
theorem x_inS {n : Nat} {i : Str} {s : S} : inAM (.str i) (.cell n) s = inCR true s.vh[n]? (.inr i) (inQ true (.str i) (.cell n) s) s := by
  unfold inAM altM inCR dinM dctR keyD
  dsimp only
  cases s.vh[n]? with
  | none => rfl
  | some c => cases c <;> rfl
theorem x_ninS {n : Nat} {i : Str} {s : S} : ninAM (.str i) (.cell n) s = inCR false s.vh[n]? (.inr i) (inQ false (.str i) (.cell n) s) s := by
  unfold ninAM altM inCR dinM dctR keyD
  dsimp only
  cases s.vh[n]? with
  | none => rfl
  | some c => cases c <;> rfl
theorem x_inCd {b : Bool} {kvs : List (Key × D)} {k : Key} {q : Res D} {s : S} : inCR b (some (.dct kvs)) k q s = .ok (.bl ((valA kvs k).isSome == b)) s := nr rfl
theorem x_inCl {b : Bool} {ds : List D} {k : Key} {q : Res D} {s : S} : inCR b (some (.lst ds)) k q s = q := nr rfl
theorem flL_ints : ∀ ns : List Int, flL (ns.map D.int) = some (ns.map V.int)
  | [] => rfl
  | n :: r => by rw [List.map_cons, flL, flL_ints r]; rfl
theorem inV_ints (i : Int) (ns : List Int) : inV (.int i) (ns.map V.int) = decide (i ∈ ns) := by
  unfold inV
  induction ns with
  | nil => rfl
  | cons n r ih =>
    rw [List.map_cons, List.any_cons, ih]
    show ((n == i) || decide (i ∈ r)) = _
    by_cases h : n = i
    · subst h; simp
    · rw [beq_eq_false_iff_ne.mpr h, Bool.false_or]
      have : ¬ i = n := fun z => h z.symm
      simp [this]
theorem x_inL {i : Int} {ns : List Int} {s : S} : inAM (.int i) (.lst (ns.map D.int)) s = .ok (.bl (decide (i ∈ ns))) s := by
  show inQ true (.int i) (.lst (ns.map D.int)) s = _
  unfold inQ sqOf lstOf
  dsimp only
  rw [flL_ints]
  show Res.ok (D.bl (inV (.int i) (ns.map V.int) == true)) s = _
  rw [inV_ints, beq_true]
theorem x_ninL {i : Int} {ns : List Int} {s : S} : ninAM (.int i) (.lst (ns.map D.int)) s = .ok (.bl (!decide (i ∈ ns))) s := by
  show inQ false (.int i) (.lst (ns.map D.int)) s = _
  unfold inQ sqOf lstOf
  dsimp only
  rw [flL_ints]
  show Res.ok (D.bl (inV (.int i) (ns.map V.int) == false)) s = _
  rw [inV_ints, beq_false]
theorem x_dputS {fo fi fv : M D} {s : S} : dputS fo fi fv s = (fv s).then' fun v => bnd fo fun d => bnd fi fun e => dputM v d e := nr rfl
def dputR (v : D) (n : Nat) (k : Key) (o : Option Cell) (s : S) : Res Out := match o with
  | some (.dct kvs) => if kvs.length < sizeLine then .ok .nx ⟨s.loc, s.vh.set n (.dct (putA kvs k v))⟩ else .bad
  | _ => .bad
theorem x_dput {v : D} {n : Nat} {i : Int} {s : S} : dputM v (.cell n) (.int i) s = dputR v n (.inl i) s.vh[n]? s := by
  unfold dputM dputR keyD
  dsimp only
  all_goals (cases s.vh[n]? with
    | none => rfl
    | some c => cases c <;> rfl)
theorem x_dputT {v : D} {n : Nat} {i : Str} {s : S} : dputM v (.cell n) (.str i) s = dputR v n (.inr i) s.vh[n]? s := by
  unfold dputM dputR keyD
  dsimp only
  all_goals (cases s.vh[n]? with
    | none => rfl
    | some c => cases c <;> rfl)
theorem x_dputR {v : D} {n : Nat} {k : Key} {kvs : List (Key × D)} {s : S} (h : kvs.length < 16777216) : dputR v n k (some (.dct kvs)) s = .ok .nx ⟨s.loc, s.vh.set n (.dct (putA kvs k v))⟩ := by
  unfold dputR
  dsimp only
  rw [if_pos (by rw [sizeLine_eq]; exact h)]
theorem x_pair {p q : M D} {r : M (List (Key × D))} {s : S} : pairM p q r s = (p s).then' fun d => bnd q fun e => bnd r fun ds => match keyD d with | some k => ret ((k, e) :: ds) | none => fail := nr rfl
theorem x_keyI {i : Int} : keyD (.int i) = some (.inl i) := nr rfl
theorem x_keyS {i : Str} : keyD (.str i) = some (.inr i) := nr rfl
theorem x_dsp {r : M (List (Key × D))} {s : S} : dspM r s = (r s).then' fun ds => if ds.length ≤ 15 then ret (.dct (mergeA [] ds)) else fail := nr rfl
theorem x_merge1 {k : Key} {v : D} : mergeA [] [(k, v)] = [(k, v)] := nr rfl
/-! lists that are cells -/
def isTyR (o : Option Cell) : Bool := match o with
  | some (.lst _) => true
  | _ => false
theorem x_isTyC {n : Nat} {s : S} : isTy "list" s (.cell n) = isTyR s.vh[n]? := by
  unfold isTy isTyR lstOf dctOf
  dsimp only
  cases s.vh[n]? with
  | none => rfl
  | some c => cases c <;> rfl
theorem x_isTyR {ds : List D} : isTyR (some (.lst ds)) = true := nr rfl
def appR (n : Nat) (e : D) (o : Option Cell) (s : S) : Res D := match o with
  | some (.lst ds) => if ds.length < sizeLine then .ok .non ⟨s.loc, s.vh.set n (.lst (ds ++ [e]))⟩ else .bad
  | _ => .bad
theorem x_app {n : Nat} {e : D} {s : S} : appM (.cell n) [e] s = appR n e s.vh[n]? s := by
  unfold appM wrM appR
  dsimp only
  cases s.vh[n]? with
  | none => rfl
  | some c =>
    cases c with
    | lst ds =>
      dsimp only
      by_cases h : ds.length < sizeLine
      · rw [if_pos h, if_pos h]
      · rw [if_neg h, if_neg h]
    | _ => rfl
theorem x_appR {n : Nat} {e : D} {ds : List D} {s : S} (h : ds.length < 16777216) : appR n e (some (.lst ds)) s = .ok .non ⟨s.loc, s.vh.set n (.lst (ds ++ [e]))⟩ := by
  unfold appR
  dsimp only
  rw [if_pos (by rw [sizeLine_eq]; exact h)]
theorem x_meth0 {T : String} {f : M D} {g : D → M D} {s : S} : meth0M T f g s = (f s).then' fun d s => if isTy T s d = true then g d s else .bad := nr rfl
def popR (n : Nat) (o : Option Cell) (s : S) : Res D := match o with
  | some (.lst ds) => match ds[ds.length - 1]? with
    | some d => .ok d ⟨s.loc, s.vh.set n (.lst ds.dropLast)⟩
    | none => .bad
  | _ => .bad
theorem x_clr {n : Nat} {ds : List D} {s : S} (h : s.vh[n]? = some (.lst ds)) : clrM (.cell n) s = .ok .non ⟨s.loc, s.vh.set n (.lst [])⟩ := by
  unfold clrM wrM
  dsimp only
  rw [h]
def clrR (n : Nat) (o : Option Cell) (s : S) : Res D := match o with
  | some (.lst _) => .ok .non ⟨s.loc, s.vh.set n (.lst [])⟩
  | _ => .bad
theorem x_clrC {n : Nat} {s : S} : clrM (.cell n) s = clrR n s.vh[n]? s := by
  unfold clrM wrM clrR
  dsimp only
  all_goals (cases s.vh[n]? with
    | none => rfl
    | some c => cases c <;> rfl)
theorem x_clrR {n : Nat} {ds : List D} {s : S} : clrR n (some (.lst ds)) s = .ok .non ⟨s.loc, s.vh.set n (.lst [])⟩ := nr rfl
def seqR (n : Nat) (o : Option Cell) (s : S) : Res Wk := match o with
  | some (.lst ds) => .ok ⟨ds, fun s' => itemsOf s' (.cell n) = some ds⟩ s
  | _ => .bad
theorem x_seqC {n : Nat} {s : S} : seqI (.cell n) s = seqR n s.vh[n]? s := by
  unfold seqI seqR itemsOf lstOf
  dsimp only
  cases h : s.vh[n]? with
  | none => rfl
  | some c => cases c <;> rfl
theorem x_seqCR {n : Nat} {ds : List D} {s : S} : seqR n (some (.lst ds)) s = .ok ⟨ds, fun s' => itemsOf s' (.cell n) = some ds⟩ s := nr rfl
theorem items_cell {n : Nat} {ds : List D} {s : S} (h : s.vh[n]? = some (.lst ds)) : itemsOf s (.cell n) = some ds := by
  unfold itemsOf lstOf
  dsimp only
  rw [h]
def lenR (o : Option Cell) (s : S) : Res D := match o with
  | some (.lst ds) => .ok (.int ds.length) s
  | some (.dct kvs) => .ok (.int kvs.length) s
  | _ => .bad
theorem x_lenC {n : Nat} {s : S} : lenM [.cell n] s = lenR s.vh[n]? s := by
  unfold lenM lenR lstOf dctOf
  dsimp only
  cases h : s.vh[n]? with
  | none => rfl
  | some c => cases c <;> rfl
theorem x_lenR {ds : List D} {s : S} : lenR (some (.lst ds)) s = .ok (.int ds.length) s := nr rfl
theorem x_lenRd {ds : List (Key × D)} {s : S} : lenR (some (.dct ds)) s = .ok (.int ds.length) s := nr rfl
def isaR (T : String) (o : Option Cell) (s : S) : Res D := match o with
  | some (.lst _) => .ok (.bl (isaT T "list")) s
  | some (.dct _) => .ok (.bl (isaT T "dict")) s
  | _ => .bad
theorem x_isaC {T : String} {n : Nat} {s : S} : isaM T (.cell n) s = isaR T s.vh[n]? s := by
  unfold isaM isaR tyName
  dsimp only
  cases h : s.vh[n]? with
  | none => rfl
  | some c => cases c <;> rfl
theorem x_isaR {T : String} {ds : List D} {s : S} : isaR T (some (.lst ds)) s = .ok (.bl (isaT T "list")) s := nr rfl
theorem x_isaRd {T : String} {ds : List (Key × D)} {s : S} : isaR T (some (.dct ds)) s = .ok (.bl (isaT T "dict")) s := nr rfl
theorem litD (s : String) : D.str (Str.ofString s) = D.str (tx (cd s)) := by rw [lit]
theorem x_lstO {ds : List D} {s : S} : lstOf s (.lst ds) = some ds := nr rfl
/-! sorted, ints -/
theorem intsOf_map : ∀ ns : List Int, intsOf (ns.map D.int) = some ns
  | [] => rfl
  | n :: r => by rw [List.map_cons, intsOf, intsOf_map r]; rfl
theorem x_sortSet {ns : List Int} {s : S} (h : ns.length < 64) : sortSetM (.lst (ns.map D.int)) s = .ok (.lst ((setZ ns).map D.int)) s := by
  unfold sortSetM lstOf
  dsimp only
  rw [intsOf_map]
  dsimp only
  rw [if_pos h]
theorem intKs_map (v : Int → D) : ∀ ns : List Int, intKs (ns.map fun n => (Sum.inl n, v n)) = some ns
  | [] => rfl
  | n :: r => by rw [List.map_cons, intKs, intKs_map v r]; rfl
theorem x_sortD {n : Nat} {ns : List Int} {v : Int → D} {s : S} (h : s.vh[n]? = some (.dct (ns.map fun n => (Sum.inl n, v n)))) (hl : ns.length < 64) : sortedM [.cell n] s = .ok (.lst ((sortZ ns).map D.int)) s := by
  have e1 : sortI1 [.cell n] s = .bad := by unfold sortI1 lstOf; dsimp only; rw [h]
  have e2 : sortI2 [.cell n] s = .bad := by unfold sortI2 lstOf; dsimp only; rw [h]
  have e3 : sortI3 [.cell n] s = .ok (.lst ((sortZ ns).map D.int)) s := by
    unfold sortI3 dctR
    dsimp only
    rw [h]
    dsimp only
    rw [intKs_map]
    dsimp only
    rw [if_pos hl]
  unfold sortedM
  rw [x_alt, x_alt, e1, x_altB, e2, x_altB, x_alt, e3, x_altO]
theorem x_sortL {ns : List Int} {s : S} : sortedM [.lst (ns.map D.int)] s = .ok (.lst ((sortZ ns).map D.int)) s := by
  have e1 : sortI1 [.lst (ns.map D.int)] s = .ok (.lst ((sortZ ns).map D.int)) s := by unfold sortI1 lstOf; dsimp only; rw [intsOf_map]
  unfold sortedM
  rw [x_alt, x_alt, e1, x_altO, x_altO]
theorem valA_map {α : Type} {v : Int → α} {i : Int} : ∀ {ns : List Int}, valA (ns.map fun n => ((Sum.inl n : Key), v n)) (.inl i) = if i ∈ ns then some (v i) else none
  | [] => by simp [valA]
  | n :: r => by
    have ih := valA_map (v := v) (i := i) (ns := r)
    unfold valA at ih ⊢
    rw [List.map_cons, List.find?_cons]
    by_cases h : n = i
    · subst h; simp
    · rw [decide_eq_false (show ¬ (Sum.inl n : Key) = Sum.inl i from fun z => h (by cases z; rfl))]
      dsimp only
      rw [ih]
      have : ¬ i = n := fun z => h z.symm
      simp [this]
theorem putA_new {α : Type} {v : Int → α} {i : Int} {ns : List Int} (h : i ∉ ns) {x : α} : putA (ns.map fun n => ((Sum.inl n : Key), v n)) (.inl i) x = (ns.map fun n => ((Sum.inl n : Key), v n)) ++ [(.inl i, x)] := by
  unfold putA
  rw [if_neg]
  intro z
  rw [List.any_eq_true] at z
  obtain ⟨kv, h1, h2⟩ := z
  obtain ⟨n, h3, h4⟩ := List.mem_map.mp h1
  subst h4
  have := of_decide_eq_true h2
  cases this
  exact h h3
theorem putA_old {α : Type} {v : Int → α} {i : Int} {ns : List Int} (h : i ∈ ns) : putA (ns.map fun n => ((Sum.inl n : Key), v n)) (.inl i) (v i) = (ns.map fun n => ((Sum.inl n : Key), v n)) := by
  unfold putA
  rw [if_pos]
  · rw [List.map_map]
    refine List.map_congr_left fun n _ => ?_
    show (if (Sum.inl n : Key) = Sum.inl i then ((Sum.inl n : Key), v i) else (Sum.inl n, v n)) = _
    split
    · next e => cases e; rfl
    · rfl
  · rw [List.any_eq_true]
    exact ⟨(.inl i, v i), List.mem_map.mpr ⟨i, h, rfl⟩, decide_eq_true rfl⟩
/-! == of lists of ints -/
theorem pyT_int (i : Int) : pyT (.int i) = some (.int i) := nr rfl
theorem pyL_ints : ∀ ns : List Int, pyL (ns.map D.int) = some (ns.map PyData.int)
  | [] => rfl
  | n :: r => by rw [List.map_cons, pyL, pyL_ints r]; rfl
theorem ints_pl (ns : List Int) : (ns.map D.int) = (ns.map Pl.int).map Pl.d := by rw [List.map_map]; rfl
theorem ints_ok {ns : List Int} : ∀ p ∈ ns.map Pl.int, p.ok := fun p h => by
  obtain ⟨n, _, rfl⟩ := List.mem_map.mp h
  trivial
theorem plI_inj {as bs : List Int} : (as.map Pl.int = bs.map Pl.int) = (as = bs) := by
  refine propext ⟨fun h => ?_, fun h => by rw [h]⟩
  have := congrArg (List.map fun p => match p with | Pl.int i => i | _ => 0) h
  rw [List.map_map, List.map_map] at this
  simpa [Function.comp_def] using this
theorem x_eqIs {as bs : List Int} {s : S} : eqM (.lst (as.map D.int)) (.lst (bs.map D.int)) s = .ok (.bl (decide (as = bs))) s := by
  rw [ints_pl, ints_pl, x_eqPls ints_ok ints_ok]
  simp only [plI_inj]
theorem x_neIs {as bs : List Int} {s : S} : neM (.lst (as.map D.int)) (.lst (bs.map D.int)) s = .ok (.bl (!decide (as = bs))) s := by
  rw [ints_pl, ints_pl, x_nePls ints_ok ints_ok]
  simp only [plI_inj]
theorem pyD_cellI {n : Nat} {ns : List Int} {s : S} (h : s.vh[n]? = some (.lst (ns.map D.int))) : pyD s (.cell n) = pyD s (.lst (ns.map D.int)) := by
  unfold pyD
  dsimp only
  rw [h]
  dsimp only
  rw [pyL_ints, pyT, pyL_ints]
theorem x_eqCI {n : Nat} {as bs : List Int} {s : S} (h : s.vh[n]? = some (.lst (as.map D.int))) : eqM (.cell n) (.lst (bs.map D.int)) s = .ok (.bl (decide (as = bs))) s := by
  rw [← x_eqIs (s := s)]
  show eqD _ _ s = eqD _ _ s
  unfold eqD
  rw [pyD_cellI h]
theorem x_neCI {n : Nat} {as bs : List Int} {s : S} (h : s.vh[n]? = some (.lst (as.map D.int))) : neM (.cell n) (.lst (bs.map D.int)) s = .ok (.bl (!decide (as = bs))) s := by
  rw [← x_neIs (s := s)]
  show neD _ _ s = neD _ _ s
  unfold neD
  rw [pyD_cellI h]
/-! a def that hands back a new cell -/
theorem runN_of {n : Nat} {g : M Out} {ds : List D} {vh more : List Cell} {k : Nat} {c : Cell} (h : ∃ l, g (initS n ds vh) = .ok (.rt (.cell (vh.length + k))) ⟨l, vh ++ more⟩) (hk : more[k]? = some c) (hc : ncC vh.length c = true) : runN n g ds vh = some c := by
  obtain ⟨l, h⟩ := h
  unfold runN
  rw [h]
  show finN vh ⟨l, vh ++ more⟩ (.cell (vh.length + k)) = some c
  unfold finN
  dsimp only
  rw [if_pos (by exact List.take_left), if_pos (by omega), List.getElem?_append_right (by omega), Nat.add_sub_cancel_left, hk]
  dsimp only
  rw [if_pos hc]
theorem runW_of {n : Nat} {g : M Out} {ds : List D} {vh vh2 more : List Cell} {d : D} (h : ∃ l, g (initS n ds vh) = .ok (.rt d) ⟨l, vh2 ++ more⟩) (hl : vh2.length = vh.length) (hd : nc vh.length d = true) (hc : ∀ c ∈ vh2, ncC vh.length c = true) : runW n g ds vh = some (d, vh2) := by
  obtain ⟨l, h⟩ := h
  unfold runW
  rw [h]
  show finW vh.length ⟨l, vh2 ++ more⟩ d = _
  unfold finW
  have e : (vh2 ++ more).take vh.length = vh2 := by rw [← hl]; exact List.take_left
  dsimp only
  rw [if_pos (by rw [List.length_append]; omega), e, if_pos (List.all_eq_true.mpr hc), if_pos hd]
theorem runW_nx {n : Nat} {g : M Out} {ds : List D} {vh vh2 more : List Cell} (h : ∃ l, g (initS n ds vh) = .ok .nx ⟨l, vh2 ++ more⟩) (hl : vh2.length = vh.length) (hc : ∀ c ∈ vh2, ncC vh.length c = true) : runW n g ds vh = some (.non, vh2) := by
  obtain ⟨l, h⟩ := h
  unfold runW
  rw [h]
  show finW vh.length ⟨l, vh2 ++ more⟩ .non = _
  unfold finW
  have e : (vh2 ++ more).take vh.length = vh2 := by rw [← hl]; exact List.take_left
  dsimp only
  rw [if_pos (by rw [List.length_append]; omega), e, if_pos (List.all_eq_true.mpr hc), if_pos (by rfl)]
theorem runS_of {n : Nat} {g : M Out} {ds : List D} {vh vh2 : List Cell} {d : D} (h : ∃ l, g (initS n ds vh) = .ok (.rt d) ⟨l, vh2⟩) : runS n g ds vh = some (d, vh2) := by
  obtain ⟨l, h⟩ := h
  unfold runS
  rw [h]
theorem runS_nx {n : Nat} {g : M Out} {ds : List D} {vh vh2 : List Cell} (h : ∃ l, g (initS n ds vh) = .ok .nx ⟨l, vh2⟩) : runS n g ds vh = some (.non, vh2) := by
  obtain ⟨l, h⟩ := h
  unfold runS
  rw [h]
theorem ncL_ints (b : Nat) (ns : List Int) : ncL b (ns.map D.int) = true := by
  induction ns with
  | nil => rfl
  | cons n r ih =>
    show (nc b (.int n) && ncL b (r.map D.int)) = true
    rw [ih]; rfl
/-! comprehensions, over anything -/
theorem lc_gen0 {α : Type} {ok : S → Prop} {i : Nat} {c : M Bool} {e : M D} {l0 l : List (Option D)} {vh : List Cell} {g v : α → D} {p : α → Bool} (hok : ∀ l, ok ⟨l, vh⟩) : ∀ (as : List α) (acc : List D), (acc.length + as.length ≤ 16777216) →
    (∀ a ∈ as, ∃ l1, c ⟨l0.set i (some (g a)), vh⟩ = .ok (p a) ⟨l1, vh⟩ ∧ (p a = true → ∃ l2, e ⟨l1, vh⟩ = .ok (v a) ⟨l2, vh⟩)) →
    lcLoop ok i c e l0 l (as.map g) acc ⟨l0, vh⟩ = .ok (.lst (acc ++ (as.filter p).map v)) ⟨l, vh⟩
  | [], acc, _, _ => by
    rw [List.map_nil]
    unfold lcLoop
    rw [if_pos (hok l0)]
    simp
  | a :: as, acc, hl, h => by
    obtain ⟨l1, h1, h2⟩ := h a List.mem_cons_self
    have hlen : acc.length < sizeLine := Nat.lt_of_lt_of_le (show acc.length < 16777216 by simp at hl; omega) (by decide)
    rw [List.map_cons]
    unfold lcLoop
    rw [if_pos ⟨hok l0, hlen⟩]
    cases hq : p a with
    | false =>
      rw [hq] at h1
      have e1 : c { (⟨l0, vh⟩ : S) with loc := l0.set i (some (g a)) } = .ok false ⟨l1, vh⟩ := h1
      rw [e1]
      have := lc_gen0 (l := l) (v := v) hok as acc (by simp at hl; omega) (fun b hb => h b (List.mem_cons_of_mem _ hb))
      rw [List.filter_cons, if_neg (by rw [hq]; decide)]
      exact this
    | true =>
      rw [hq] at h1
      obtain ⟨l2, h3⟩ := h2 hq
      have e1 : c { (⟨l0, vh⟩ : S) with loc := l0.set i (some (g a)) } = .ok true ⟨l1, vh⟩ := h1
      rw [e1]
      dsimp only
      rw [h3]
      have := lc_gen0 (l := l) (v := v) hok as (acc ++ [v a]) (by simp at hl ⊢; omega) (fun b hb => h b (List.mem_cons_of_mem _ hb))
      rw [List.filter_cons, if_pos hq, List.map_cons]
      simpa using this
theorem lc_gen {α : Type} {f : M Wk} {i : Nat} {c : M Bool} {e : M D} {l : List (Option D)} {vh : List Cell} {ok : S → Prop} (as : List α) (g v : α → D) (p : α → Bool) (hf : f ⟨l, vh⟩ = .ok ⟨as.map g, ok⟩ ⟨l, vh⟩) (hok : ∀ l, ok ⟨l, vh⟩) (hl : as.length ≤ 16777216)
    (h : ∀ a ∈ as, ∃ l1, c ⟨(l.set i none).set i (some (g a)), vh⟩ = .ok (p a) ⟨l1, vh⟩ ∧ (p a = true → ∃ l2, e ⟨l1, vh⟩ = .ok (v a) ⟨l2, vh⟩)) : lcM f i c e ⟨l, vh⟩ = .ok (.lst ((as.filter p).map v)) ⟨l, vh⟩ := by
  unfold lcM
  rw [bnd_ok hf]
  have := lc_gen0 (l := l) (v := v) hok as [] (by simpa using hl) h
  simpa using this
theorem lc_pure {α : Type} {f : M Wk} {i : Nat} {c : M Bool} {e : M D} {l : List (Option D)} {vh : List Cell} {ok : S → Prop} (as : List α) (g v : α → D) (p : α → Bool) (hf : f ⟨l, vh⟩ = .ok ⟨as.map g, ok⟩ ⟨l, vh⟩) (hok : ∀ l, ok ⟨l, vh⟩) (hl : as.length ≤ 16777216)
    (h1 : ∀ a ∈ as, c ⟨(l.set i none).set i (some (g a)), vh⟩ = .ok (p a) ⟨(l.set i none).set i (some (g a)), vh⟩) (h2 : ∀ a ∈ as, p a = true → e ⟨(l.set i none).set i (some (g a)), vh⟩ = .ok (v a) ⟨(l.set i none).set i (some (g a)), vh⟩) : lcM f i c e ⟨l, vh⟩ = .ok (.lst ((as.filter p).map v)) ⟨l, vh⟩ :=
  lc_gen as g v p hf hok hl fun a ha => ⟨_, h1 a ha, fun q => ⟨_, h2 a ha q⟩⟩
end Fx

/-! Fx: max of a list, list(range), three names in a target -/
namespace Fx
open PySem PySem.Spec PyProof.Rows L2
variable {X : Cx} {W : WX}
def maxZ : List Int → Int
  | [] => 0
  | [a] => a
  | a :: b :: r => max a (maxZ (b :: r))
theorem maxZ_in : ∀ {ns : List Int}, ns ≠ [] → maxZ ns ∈ ns ∧ ∀ y ∈ ns, y ≤ maxZ ns
  | [a], _ => by simp [maxZ]
  | a :: b :: r, _ => by
    obtain ⟨h1, h2⟩ := maxZ_in (ns := b :: r) (by simp)
    have e : maxZ (a :: b :: r) = max a (maxZ (b :: r)) := rfl
    rw [e]
    refine ⟨?_, fun y hy => ?_⟩
    · rcases Int.le_total a (maxZ (b :: r)) with h | h
      · rw [Int.max_eq_right h]; exact List.mem_cons_of_mem _ h1
      · rw [Int.max_eq_left h]; exact List.mem_cons_self
    · rcases List.mem_cons.mp hy with q | q
      · rw [q]; exact Int.le_max_left _ _
      · exact Int.le_trans (h2 y q) (Int.le_max_right _ _)
theorem maxZ_eq {ns : List Int} {m : Int} (h : m ∈ ns) (k : ∀ y ∈ ns, y ≤ m) : m = maxZ ns := by
  have hn : ns ≠ [] := fun z => by rw [z] at h; cases h
  obtain ⟨h1, h2⟩ := maxZ_in hn
  have := k _ h1
  have := h2 _ h
  omega
def maxlM : List D → M D
  | [d] => fun s => match lstOf s d with
    | some ds => match intsOf ds with
      | some ns => if ns = [] then .bad else .ok (.int (maxZ ns)) s
      | none => .bad
    | none => .bad
  | _ => fail
theorem rc_maxl : RCal X (rMax X.K) maxlM := by
  intro W w H σ s vs ds Q R r p
  unfold maxlM at p
  split at p
  · next d =>
    obtain ⟨v, rfl, rv⟩ := one_of r
    split at p
    · next es he =>
      split at p
      · next ns hn =>
        split at p
        · exact p.elim
        · next hne =>
          obtain ⟨a, us, rfl, h1, h2⟩ := R.list rv he
          rw [ints_rep' h2 hn] at h1
          refine ⟨a, ns, rfl, h1, List.length_pos_iff.mpr hne, fun m hm hk => ?_⟩
          rw [maxZ_eq hm hk]
          exact Post.here p R (Rep.int _)
      · exact p.elim
    · exact p.elim
  · exact p.elim
theorem de_maxl {e : Expr} {fs : M (List D)} {p pos : Pos} (hm : X.mg "max" = none) (ha : DA X W [e] fs) (hc : X.calm = true := by rfl) (hg : Gl X "max" := by rfl) (he : starEach [e] X.env = (false, eval e X.env) :: starEach [] X.env := by rfl) (hpl : (backTo pos (starEach [] X.env)).any (·.1) = false := by rfl) :
    DE X W (.Call (.Name "max" p) [e] [] pos) (bnd fs maxlM) := de_callB (cr_max hc) rc_maxl hm ha (by decide +kernel) hg (by decide) (by decide) he hpl
theorem x_maxl {ns : List Int} {s : S} (h : ns ≠ []) : maxlM [.lst (ns.map D.int)] s = .ok (.int (maxZ ns)) s := by
  unfold maxlM lstOf
  dsimp only
  rw [intsOf_map]
  dsimp only
  rw [if_neg h]
/-! for a, b, c in .. -/
def unp3 (i j k : Nat) (d : D) : M Out := fun s => match d with
  | .tup [x, y, z] => .ok .nx { s with loc := ((s.loc.set i (some x)).set j (some y)).set k (some z) }
  | _ => .bad
theorem dg_three {i j k : Nat} {x y z : Str} {kk : Nat} {p1 p2 p3 pos : Pos} (hc : X.calm = true) (hN : X.N.Nodup) (hi : X.N[i]? = some x := by rfl) (hj : X.N[j]? = some y := by rfl) (hk : X.N[k]? = some z := by rfl) (hx : Loc X.env.scope x := by first | exact Or.inl rfl | exact Or.inr rfl) (hy : Loc X.env.scope y := by first | exact Or.inl rfl | exact Or.inr rfl) (hz : Loc X.env.scope z := by first | exact Or.inl rfl | exact Or.inr rfl)
    (hf : X.fn x = true ∨ X.env.scope.names.lookup x = some .local := by first | exact .inl rfl | exact .inr rfl) (hf2 : X.fn y = true ∨ X.env.scope.names.lookup y = some .local := by first | exact .inl rfl | exact .inr rfl) (hf3 : X.fn z = true ∨ X.env.scope.names.lookup z = some .local := by first | exact .inl rfl | exact .inr rfl)
    (hn : (assignEach [.Name x p1, .Name y p2, .Name z p3] X.env).length = 3 := by rfl) (hst : (assignEach [.Name x p1, .Name y p2, .Name z p3] X.env).findIdx? (·.1) = none := by rfl)
    (hs1 : (assignEach [.Name x p1, .Name y p2, .Name z p3] X.env).map (·.2) = assign (.Name x p1) X.env :: (assignEach [.Name y p2, .Name z p3] X.env).map (·.2) := by rfl) (hs2 : (assignEach [.Name y p2, .Name z p3] X.env).map (·.2) = assign (.Name y p2) X.env :: (assignEach [.Name z p3] X.env).map (·.2) := by rfl)
    (hs3 : (assignEach [.Name z p3] X.env).map (·.2) = assign (.Name z p3) X.env :: (assignEach [] X.env).map (·.2) := by rfl) :
    DG X (.Tuple [.Name x p1, .Name y p2, .Name z p3] kk pos) (unp3 i j k) := by
  refine ⟨_, pg_tup hc (pgs_cons (pg_name hN hi hx hf) (pgs_cons (pg_name hN hj hy hf2) (pgs_cons (pg_name hN hk hz hf3) pgs_nil hs3) hs2) hs1) hn hst, fun w H σ s v d Q R r p => ?_⟩
  unfold unp3 at p
  split at p
  · next d1 d2 d3 =>
    obtain ⟨a, vs, rfl, h1, h2⟩ := R.tuple r (ds := [d1, d2, d3]) rfl
    cases h2 with
    | cons r1 t1 =>
      cases t1 with
      | cons r2 t2 =>
        cases t2 with
        | cons r3 t3 =>
          cases t3
          exact ⟨a, _, rfl, h1, rfl, _, _, rfl, _, _, rfl, _, _, rfl, rfl, p w H _ (Le.refl _ _) (((R.set r1).set r2).set r3)⟩
  · exact p.elim
theorem unp3_ok {i j k : Nat} (d : D) (s : S) : (∃ s', unp3 i j k d s = .ok .nx s') ∨ unp3 i j k d s = .bad := by
  unfold unp3
  split
  · exact .inl ⟨_, rfl⟩
  · exact .inr rfl
/-! list(range(n)) -/
def listRan : List D → M Cell
  | [.int n] => fun s => if 0 ≤ n ∧ n ≤ 16777216 then .ok (.lst (ranD 0 n.toNat)) s else .bad
  | _ => fail
theorem dn_listRan {e : Expr} {fs : M D} {p q pos pos2 : Pos} (hm : X.mg "list" = none) (hm2 : X.mg "range" = none) (ha : DE X W e fs) (hc : X.calm = true := by rfl) (hg : Gl X "list" := by rfl) (hg2 : Gl X "range" := by rfl) (he : starEach [e] X.env = (false, eval e X.env) :: starEach [] X.env := by rfl)
    (he2 : starEach [Expr.Call (.Name "range" q) [e] [] pos2] X.env = (false, eval (Expr.Call (.Name "range" q) [e] [] pos2) X.env) :: starEach [] X.env := by rfl) :
    DN X W (.Call (.Name "list" p) [.Call (.Name "range" q) [e] [] pos2] [] pos) (bnd fs fun d => listRan [d]) := by
  obtain ⟨t, pe, r⟩ := ha
  refine ⟨_, pe_listRg hc hg hm (prg_1 hg2 hm2 pe he) he2, fun w H σ s Q R z => ?_⟩
  refine r.bnd R z fun d s1 w1 H1 v l1 R1 r1 p1 => ?_
  cases r1 with
  | int n =>
    have p1 : Post X.K W (pN X.K) w1 H1 σ (if 0 ≤ n ∧ n ≤ 16777216 then Res.ok (Cell.lst (ranD 0 n.toNat)) s1 else .bad) Q := p1
    split at p1
    · next hn =>
      refine ⟨n, rfl, RgOk.of_le (by omega) hn.2 (by omega) hn.1, fun q hq => ?_⟩
      have e1 : rgV 0 n = (List.range n.toNat).map fun i : Nat => V.int (0 + (i : Int)) := by unfold rgV; rw [Int.sub_zero]
      rw [e1]
      refine R1.giveL ?_ p1 hq
      unfold ranD
      have : ∀ ks : List Nat, RepL X.K w1 (ks.map fun i : Nat => V.int (0 + (i : Int))) (ks.map fun i : Nat => D.int (0 + (i : Int))) := fun ks => by
        induction ks with
        | nil => exact .nil
        | cons k r ih => exact .cons (.int _) ih
      exact this _
    · exact p1.elim
  | _ => exact p1.elim
theorem x_intB {b : Bool} {s : S} : intM [.bl b] s = .ok (.int (if b = true then 1 else 0)) s := by cases b <;> rfl
theorem x_intI {i : Int} {s : S} : intM [.int i] s = .ok (.int i) s := nr rfl
theorem at_last {α : Type} {xs : List α} {z : α} : atI (xs ++ [z]) (-1) = some z := by
  unfold atI
  rw [show ixN (xs ++ [z]).length (-1) = some xs.length by rw [List.length_append, List.length_singleton]; simp [ixN] <;> omega]
  simp
end Fx

/-! Fx: list(reversed(a list)) -/
namespace RT
open PySem PySem.Spec PyProof.Rows L2
section
variable {prog : Program} {w : World} {A : Around} {E : Value → Shared → Prop} {s : Shared}
theorem ext_rev {R : Result → Shared → Prop} {it l : Addr} {items : Array Value} (hh : A.handled = none) (hit : s.heap.IsRevIter it l ((items.size : Int) - 1)) (hl : s.heap.IsList l items) (hne : l ≠ it) (hn : items.size ≤ sizeLine)
    (S : Addr) (res : Value) (c₀ : Nat) (hS : s.heap.get? S = some { cls := .type "list", data := .seq #[] c₀ }) (hSi : S ≠ it) (hSl : S ≠ l)
    (hR : ∀ h' tk acc' c', (∀ b o, b ≠ S → b ≠ it → s.heap.get? b = some o → h'.get? b = some o) → h'.get? S = some { cls := .type "list", dict := none, data := .seq acc' c', slots := #[] } →
      ItemsOf (fun i v => items[items.size - 1 - i]? = some v) acc' items.size → R (.ok (.ret res)) { s with heap := h', toks := tk }) :
    wpAny (model prog w) A.in1 (Builtin.List.listExtendWith (.ref S) (.ref it) res)
      (fun fin s' => match fin with | .done f => R (.ok f) s' | .again c' => c'.quiet = true ∧ codeAny (model prog w) A c' R s') (fun e s' => R (.error e) s') s := by
  have W := (Walks.listRev (prog := prog) (w := w) (A := A.in1) hh it l hne items).toS
  have hSf : S ∉ [it, l] := by simp only [List.mem_cons, List.not_mem_nil, or_false, not_or]; exact ⟨hSi, hSl⟩
  have hT : s.TypeIs (.ref it) "list_reverseiterator" := hit.typeIs
  have h1 : Builtin.List.listSameRef (.ref S) (.ref it) = false := by simp [Builtin.List.listSameRef, hSi]
  unfold Builtin.List.listExtendWith
  refine wpAny_bind (wpAny_typeOf hT ?_)
  rw [if_neg (by rw [h1]; decide)]
  refine wpAny_bind (wpAny_pyIter_revIter hit ?_)
  refine wpAny_bind (wpAny_holding ?_)
  unfold Builtin.List.listLengthHint
  refine wpAny_bind (wpAny_specialOf hT nolen_lri ?_)
  show wpAny _ A.in1 (specialOf (Value.ref it) (Str.ofString "__length_hint__") >>= _) _ _ _
  refine wpAny_bind (wpAny_specialOf hT hint_lri ?_)
  generalize hid : ("list_reverseiterator.__length_hint__" : String) = id0
  wp_delta
  rw [show splitId id0 = some ("list_reverseiterator", "__length_hint__") from by subst hid; decide +kernel]
  subst hid
  refine wpAny_bind (wpAny_isInstance (b := true) hT (by rw [isSubtype_type]; kernel_rfl) ?_)
  refine wpAny_pure ?_
  rw [if_neg (by decide)]
  have e0 : ((items.size : Nat) : Int) - 1 - ((0 : Nat) : Int) = (items.size : Int) - 1 := by omega
  refine wpAny_pure ⟨plainId_quiet F.plain_extend_loop _, codeAny_extend_loopS W hn S hSf res items.size 0 _ #[] c₀ rfl (Nat.zero_le _) ⟨Nat.zero_le _, by rw [e0]; exact hit, hl⟩ hS (ItemsOf.nil _) fun s' acc' c' hm hS' hacc => ?_⟩
  rw [Moved.eq_with hm]
  refine hR s'.heap s'.toks acc' c' (fun b o hb hi e => hm.heap b o (fun hmem => ?_) e) hS' hacc
  rcases List.mem_cons.mp hmem with e' | hmem
  · exact hb e'
  · exact hi (List.mem_singleton.mp hmem)
theorem init_rev {R : Result → Shared → Prop} {it l : Addr} {items : Array Value} (hh : A.handled = none) (hit : s.heap.IsRevIter it l ((items.size : Int) - 1)) (hl : s.heap.IsList l items) (hne : l ≠ it) (hn : items.size ≤ sizeLine)
    (S : Addr) (hS : s.heap.get? S = some { cls := .type "list", data := .seq #[] }) (hSi : S ≠ it) (hSl : S ≠ l)
    (hR : ∀ h' tk acc' c', (∀ b o, b ≠ S → b ≠ it → s.heap.get? b = some o → h'.get? b = some o) → h'.get? S = some { cls := .type "list", dict := none, data := .seq acc' c', slots := #[] } →
      ItemsOf (fun i v => items[items.size - 1 - i]? = some v) acc' items.size → R (.ok (.ret .none)) { s with heap := h', toks := tk }) :
    wpAny (model prog w) A.in1 (Builtin.«list.__init__» ⟨[.ref S, .ref it], []⟩)
      (fun fin s' => match fin with | .done f => R (.ok f) s' | .again c' => c'.quiet = true ∧ codeAny (model prog w) A c' R s') (fun e s' => R (.error e) s') s := by
  show wpAny _ _ (do let old ← Builtin.List.listItems (.ref S); Builtin.List.listUpdate (.ref S) (fun _ => #[]); letGo old.toList.reverse; Builtin.List.listExtendWith (.ref S) (.ref it) .none) _ _ s
  refine wpAny_bind ?_
  unfold Builtin.List.listItems
  refine wpAny_bind (wpAny_seqItems hS rfl (wpAny_pure ?_))
  show wpAny _ _ (updateSeq S (fun _ => #[]) >>= fun _ => letGo (#[] : Array Value).toList.reverse >>= fun _ => Builtin.List.listExtendWith (.ref S) (.ref it) .none) _ _ s
  refine wpAny_bind (wpAny_updateSeq hS rfl ?_)
  have hS₂ := Heap.get?_update_self (Obj.mapSeq (fun _ => (#[] : Array Value))) hS rfl
  have oth : ∀ b o, b ≠ S → s.heap.get? b = some o → (s.heap.update S (Obj.mapSeq (fun _ => (#[] : Array Value)))).get? b = some o :=
    fun b o hb e => (Heap.get?_update_other _ _ (Ne.symm hb)).trans e
  refine wpAny_bind (wpAny_letGo ?_)
  refine ext_rev hh (hit.at fun o e => oth it o (Ne.symm hSi) e) ?_ hne hn S .none _ hS₂ hSi hSl fun h' tk acc' c' hk hS' hacc => ?_
  · obtain ⟨o, e, k⟩ := hl
    exact ⟨o, oth l o (Ne.symm hSl) e, k⟩
  · exact hR h' tk acc' c' (fun b o hb hi e => hk b o hb hi (oth b o hb e)) hS' hacc
theorem call_list_rev {Q : Value → Shared → Prop} {it l : Addr} {items : Array Value} (hh : A.handled = none) (hit : s.heap.IsRevIter it l ((items.size : Int) - 1)) (hl : s.heap.IsList l items) (hne : l ≠ it) (hn : items.size ≤ sizeLine)
    (hQ : ∀ h' tk acc' c', (∀ b o, b ≠ it → s.heap.get? b = some o → h'.get? b = some o) →
      h'.get? s.heap.objs.size = some { cls := .type "list", dict := none, data := .seq acc' c', slots := #[] } → ItemsOf (fun i v => items[items.size - 1 - i]? = some v) acc' items.size → Q (.ref s.heap.objs.size) { s with heap := h', toks := tk }) :
    wpAny (model prog w) A (call (.type "list") [.ref it]) Q E s := by
  refine callType_codes (Q₁ := fun obj s₁ => obj = .ref s.heap.objs.size ∧ s₁ = { s with heap := s.heap.push { cls := .type "list", data := .seq #[] } }) F.called_list (F.typeCall_list_1 _) F.entry_list_init
    (code_list_new _ ⟨rfl, rfl⟩) fun obj s₁ h₁ => ?_
  obtain ⟨rfl, rfl⟩ := h₁
  obtain ⟨oi, hoi, _⟩ := id hit
  obtain ⟨ol, hol, _⟩ := id hl
  have hS : (s.heap.push { cls := .type "list", data := .seq #[] }).get? s.heap.objs.size = some { cls := .type "list", data := .seq #[] } := Heap.get?_push_size _ rfl
  refine ⟨⟨_, hS, rfl⟩, F.args_list_init_2 _ _, init_rev (A := A.in1) hh (hit.at fun o e => Heap.get?_push_of_some _ e) (hl.push _) hne hn _ hS (Nat.ne_of_gt (Heap.lt_size hoi)) (Nat.ne_of_gt (Heap.lt_size hol)) fun h' tk acc' c' hk hS' hacc => ?_⟩
  exact ⟨rfl, hQ h' tk acc' c' (fun b o hb e => hk b o (Nat.ne_of_lt (Heap.lt_size e)) hb (Heap.get?_push_of_some _ e)) hS' hacc⟩
end
/-- list(reversed(x)), x a list: a new list -/
def tLstRev (K : PySem.W.Frag) (te : TE) : TE := fun σ H Q => te σ H fun v H1 => ∃ (a : Addr) (xs : List V), v = .ref a ∧ SqL K H1 a xs ∧ ∀ q, H1 q = none → Q (.ref q) (upd H1 q (.lst xs.reverse))
section
variable {X : Cx}
theorem pe_lstRev {e : Expr} {te : TE} {p p2 pos pos2 : Pos} (hc : X.calm = true) (hg : Gl X "list") (hm : X.mg "list" = none) (hg2 : Gl X "reversed") (hm2 : X.mg "reversed" = none) (he : PE X e te)
    (hs : starEach [e] X.env = (false, eval e X.env) :: starEach [] X.env := by rfl)
    (hs2 : starEach [.Call (.Name "reversed" p2) [e] [] pos2] X.env = (false, eval (.Call (.Name "reversed" p2) [e] [] pos2) X.env) :: starEach [] X.env := by rfl) :
    PE X (.Call (.Name "list" p) [.Call (.Name "reversed" p2) [e] [] pos2] [] pos) (tLstRev X.K te) := by
  refine ⟨fun pins s σ H Q I h => ?_⟩
  refine Call_ (ld_blt I hg hm boot_list (PyProof.Rows.callWith_type1 (args_cons (Call_ (ld_blt I hg2 hm2 PyProof.Rows.boot_reversed (PyProof.Rows.callWith_type1 (args_cons (thn (he.run pins s σ H _ I h) fun u s1 ⟨v, H1, I1, r1, q1⟩ => args_nil ?_) hs) hs rfl))) hs2) hs2 rfl))
  obtain ⟨a, xs, ev, hq, q⟩ := q1
  subst ev
  obtain rfl : u = Value.ref a := r1
  obtain ⟨its, rv, p', hz⟩ := I1.list hq
  refine call_reversed_list p'.isList (args_nil ?_)
  have k0 : ∀ b o, s1.heap.get? b = some o → (s1.heap.push (revObj a ((its.toArray.size : Int) - 1))).get? b = some o := fun b o e => Heap.get?_push_of_some _ e
  have I2 : Inv X pins σ H1 { s1 with heap := s1.heap.push (revObj a ((its.toArray.size : Int) - 1)) } := I1.kept (t' := s1.toks) k0
  obtain ⟨f0, f1, f2, f3, f4, f5⟩ := I1.fpOk (H' := H1) (b := s1.heap.objs.size) (Nat.le_refl _) (I1.hok.fresh (Nat.le_refl _))
  have hl := p'.isList
  obtain ⟨ol, hol, _⟩ := id hl
  have hne : a ≠ s1.heap.objs.size := Nat.ne_of_lt (Heap.lt_size hol)
  have hn : its.toArray.size ≤ sizeLine := by rw [List.size_toArray, ← rv.length]; exact hz
  refine call_list_rev (s := { s1 with heap := s1.heap.push (revObj a ((its.toArray.size : Int) - 1)) }) (I1.ok.hd hc) ⟨_, Heap.get?_push_size _ rfl, rfl, rfl⟩ (hl.push _) hne hn fun h' tk acc c' hk e' hi => ?_
  refine ⟨.ref (s1.heap.push (revObj a ((its.toArray.size : Int) - 1))).objs.size, upd H1 (s1.heap.push (revObj a ((its.toArray.size : Int) - 1))).objs.size (.lst xs.reverse), I2.turnedNew (t' := tk) (ch := [s1.heap.objs.size]) (fun b o hb e => hk b o (fun z => hb (by simp [z])) e) (fun b hb => ?_) (Nat.le_refl _)
    (show ObjOk X.prog X.w _ _ _ (.lst xs.reverse) from ⟨by rw [List.length_reverse]; exact hz, acc.toList, c', vals_rev rv hi, ?_⟩), rfl, q _ (I2.hok.fresh (Nat.le_refl _))⟩
  · obtain rfl : b = s1.heap.objs.size := by simpa using hb
    exact ⟨f0, f1, f2, f3, f4, f5⟩
  · rw [Array.toArray_toList]; exact e'
end
end RT
namespace Fx
open PySem PySem.Spec PyProof.Rows L2
variable {X : Cx} {W : WX}
def listRev : D → M Cell := fun d s => match lstOf s d with
  | some ds => .ok (.lst ds.reverse) s
  | none => .bad
theorem repL_rev {K : PySem.W.Frag} {w : Wd} : ∀ {vs : List V} {ds : List D}, RepL K w vs ds → RepL K w vs.reverse ds.reverse
  | [], [], _ => .nil
  | v :: vs, d :: ds, h => by
    cases h with
    | cons r t => rw [List.reverse_cons, List.reverse_cons]; exact (repL_rev t).append (.cons r .nil)
theorem dn_listRev {e : Expr} {f : M D} {p p2 pos pos2 : Pos} (hm : X.mg "list" = none) (hm2 : X.mg "reversed" = none) (he : DE X W e f) (hc : X.calm = true := by rfl) (hg : Gl X "list" := by rfl) (hg2 : Gl X "reversed" := by rfl)
    (hs : starEach [e] X.env = (false, eval e X.env) :: starEach [] X.env := by rfl)
    (hs2 : starEach [Expr.Call (.Name "reversed" p2) [e] [] pos2] X.env = (false, eval (.Call (.Name "reversed" p2) [e] [] pos2) X.env) :: starEach [] X.env := by rfl) :
    DN X W (.Call (.Name "list" p) [.Call (.Name "reversed" p2) [e] [] pos2] [] pos) (bnd f listRev) := by
  obtain ⟨t, pe, r⟩ := he
  refine ⟨_, RT.pe_lstRev hc hg hm hg2 hm2 pe hs hs2, fun w H σ s Q R z => ?_⟩
  refine r.bnd R z fun d s1 w1 H1 v l1 R1 r1 p1 => ?_
  unfold listRev at p1
  split at p1
  · next ds hd =>
    obtain ⟨a, us, rfl, h1, h2⟩ := R1.list r1 hd
    exact ⟨a, us, rfl, h1, fun q hq => R1.giveL (repL_rev h2) p1 hq⟩
  · exact p1.elim
theorem x_listRevC {n : Nat} {ds : List D} {s : S} (h : s.vh[n]? = some (.lst ds)) : listRev (.cell n) s = .ok (.lst ds.reverse) s := by
  unfold listRev lstOf
  dsimp only
  rw [h]
theorem x_slVC {n : Nat} {ds : List D} {l u : Option Int} {s : S} (h : s.vh[n]? = some (.lst ds)) : slV (.cell n) l u s = .ok (.lst (cutD ds l u)) s := by
  unfold slV lstOf
  dsimp only
  rw [h]
theorem x_zipL {xs ys : List D} {s : S} : zipA [.lst xs, .lst ys] s = .ok ⟨List.zipWith D.pr xs ys, fun _ => True⟩ s := by
  have h : (fun s' : S => lstOf s' (.lst xs) = some xs ∧ lstOf s' (.lst ys) = some ys) = fun _ => True := funext fun s' => propext ⟨fun _ => trivial, fun _ => ⟨rfl, rfl⟩⟩
  show Res.ok (Wk.mk _ (fun s' : S => lstOf s' (.lst xs) = some xs ∧ lstOf s' (.lst ys) = some ys)) s = _
  rw [h]
theorem x_is6 {i : Nat} {s : S} : isM (.cell i) .non s = .ok (.bl false) s := nr rfl
theorem x_isn6 {i : Nat} {s : S} : isnotM (.cell i) .non s = .ok (.bl true) s := nr rfl
theorem cut_last (xs : List D) : cutD xs none (some (-1)) = xs.dropLast := by
  have h : HT.sIx xs.length xs.length (some (-1)) = xs.length - 1 := by
    have h1 : HT.sIx xs.length xs.length (some (-1)) = if (-1 : Int) < 0 then ((-1 : Int) + (xs.length : Int)).toNat else min (-1 : Int).toNat xs.length := rfl
    rw [h1, if_pos (by decide)]
    omega
  unfold cutD
  rw [HT.sIx_none, h, List.drop_zero, Nat.sub_zero, List.dropLast_eq_take]
theorem cut_tail (xs : List D) : cutD xs (some 1) none = xs.drop 1 := cut_drop (n := 1) rfl
theorem x_listC {n : Nat} {ds : List D} {s : S} (h : s.vh[n]? = some (.lst ds)) : listN [.cell n] s = .ok (.lst ds) s := by
  unfold listN lstOf
  dsimp only
  rw [h]
theorem zip_at {xs ys : List D} {i : Nat} {d : D} (h : (List.zipWith D.pr xs ys)[i]? = some d) : ∃ a b, xs[i]? = some a ∧ ys[i]? = some b ∧ d = .pr a b := by
  rw [List.getElem?_zipWith] at h
  split at h
  · next a b h1 h2 => cases h; exact ⟨a, b, h1, h2, rfl⟩
  · cases h
theorem x_listRev {ds : List D} {s : S} : listRev (.lst ds) s = .ok (.lst ds.reverse) s := nr rfl
end Fx

/-! Fx: C.m(self, ..) of a def read off its class; isinstance of own classes; equal data -/
namespace Fx
open PySem PySem.Spec PyProof.Rows L2
variable {X : Cx} {W : WX}
/-- a def m of the class x, read off the class -/
structure CfQ (P : Program) (wd : World) (K : PySem.W.Frag) (mg : Str → Option Value) (base : Heap) (x m : Str) (k : Nat) (sp : Sp) : Prop where
  ex : ∃ (C f : Addr) (fd : FuncData) (ps : List Str), mg x = some (.ref C) ∧ ClX.CRead K C (.type "type") ∧ PySem.W.findCls K (.ref C) (.type "type") m = some (.val (.ref f)) ∧ PySem.W.keepIn K (.ref f) = true ∧ Binds K fd ps [] ∧ FnOk P wd K mg base CX0 k f fd ps sp
section
variable {C f : Addr} {fd : FuncData} {ps : List Str} {mc : Value} {k : Nat} {sp : Sp} {CX : CXT} {x m : Str} {e : Expr} {es : List Expr} {E : XK} {ds : List Value} {dvs : List V} {t : TA} {p pos apos : Pos}
theorem pe_cfn {pl : Sem Bool} (hm : X.mg x = some (.ref C)) (r : ClX.CRead X.K C mc) (hf : PySem.W.findCls X.K (.ref C) mc m = some (.val (.ref f))) (kp : PySem.W.keepIn X.K (.ref f) = true) (F : FnOk X.prog X.w X.K X.mg X.base CX k f fd ps sp)
    (hr : Room k X.A) (hb : Binds X.K fd ps ds) (hd : Vals dvs ds) (hx : Passes CX X E) (ha : PA X (e :: es) t) (hg : Gl X x := by rfl) (hdb : (x == ("__debug__" : Str)) = false := by decide)
    (hst : starEach (e :: es) X.env = (false, eval e X.env) :: starEach es X.env := by rfl) (hpl : (backTo pos (starEach es X.env)).any (·.1) = false := by rfl)
    (ht : eval (.Call (.Attribute (.Name x p) m apos) (e :: es) [] pos) X.env = (do
      let ov ← eval (.Name x p) X.env
      standAt apos.atName
      let (f, first) ← holding [ov] (getMethod ov m pl)
      callWith pos f first (backTo pos (starEach (e :: es) X.env)) (backToKw pos (keywordEach [] X.env))) := by rfl) :
    PE X (.Call (.Attribute (.Name x p) m apos) (e :: es) [] pos) (tCall sp dvs E t) := by
  refine ⟨fun pins s σ H Q I h => ?_⟩
  refine PySem.W.methodCall_KW (pl := pl) (thn ((pe_glob (v := .ref C) hg hm rfl hdb).run pins s σ H (fun y H1 => y = .ref C ∧ tCall sp dvs E t σ H1 Q) I ⟨rfl, h⟩) fun u s1 ⟨y, H1, I1, ry, ey, q⟩ => ?_) ht
  subst ey
  obtain rfl : u = Value.ref C := ry
  refine PySem.W.method_cls I1.kIn r.ga (ClX.getcval_ok (v := .ref f) I1 r ⟨hf, rfl⟩ fun s2 I2 => ?_)
  refine PySem.W.callWith_K (h₀ := X.base) I2.ok.mod.kin kp (thn (ha.run pos pins s2 σ H1 _ I2 q) fun us s3 ⟨vs, H2, I3, r3, q2⟩ => ⟨I3.kIn, ?_⟩) hst hpl
  exact run_fn F hr hb hd hx I3 r3 q2
end
section
variable {α : Type} {P : Pr V α} {sp : Sp} {g : List D → M α} {x m : Str} {k : Nat} {e : Expr} {es : List Expr} {fs : M (List D)} {p pos apos : Pos}
theorem cf_call (F : CfQ X.prog X.w X.K X.mg X.base x m k sp) (A : Ans X.K P sp g) (hr : Room k X.A) (ha : DA X W (e :: es) fs) {pl : Sem Bool} (hg : Gl X x := by rfl) (hdb : (x == ("__debug__" : Str)) = false := by decide)
    (hst : starEach (e :: es) X.env = (false, eval e X.env) :: starEach es X.env := by rfl) (hpl : (backTo pos (starEach es X.env)).any (·.1) = false := by rfl)
    (ht : eval (.Call (.Attribute (.Name x p) m apos) (e :: es) [] pos) X.env = (do
      let ov ← eval (.Name x p) X.env
      standAt apos.atName
      let (f, first) ← holding [ov] (getMethod ov m pl)
      callWith pos f first (backTo pos (starEach (e :: es) X.env)) (backToKw pos (keywordEach [] X.env))) := by rfl) :
    ∃ t, PE X (.Call (.Attribute (.Name x p) m apos) (e :: es) [] pos) t ∧ Fol X.K W P t (bnd fs g) := by
  obtain ⟨C, f, fd, ps, hm, hc, hf, hk, hb, G⟩ := F.ex
  obtain ⟨t, q, r⟩ := ha
  refine ⟨_, pe_cfn (pl := pl) hm hc hf hk G hr hb .nil pass0 q hg hdb hst hpl ht, fun w H σ s Q R z => ?_⟩
  refine r.bnd R z fun ds s1 w1 H1 vs l1 R1 r1 p1 => ?_
  rw [List.append_nil]
  exact A W w1 H1 σ s1 vs ds Q R1 r1 p1
end
structure TopF (K : PySem.W.Frag) (mg : Str → Option Value) (x m q : Str) (st : Stmt) (ps : List Str) : Prop where
  ex : ∃ (C f : Addr) (fd : FuncData), mg x = some (.ref C) ∧ ClX.CRead K C (.type "type") ∧ PySem.W.findCls K (.ref C) (.type "type") m = some (.val (.ref f)) ∧ PySem.W.keepIn K (.ref f) = true ∧ Fun K m q st f fd ∧ Binds K fd ps []
section
variable {P : Program} {wd : World} {K : PySem.W.Frag} {mg : Str → Option Value} {base : Heap} {x m q : Str} {st : Stmt} {N ps : List Str} {k : Nat} {g : M Out}
theorem topF_mk {h : Heap} (X : K.In h) (G : h.Ns mainGlobals mg) {C f : Addr} {oc : Value} {od an : Option Addr} {osl : Array (Option Value)} {kV doc pm cdv ct : Value} (a : PySem.W.nsIn K mainGlobals x = some (some (.ref C))) (rd : PySem.W.readsIn K C (.type "type") = true)
    (sg : PySem.W.specialIn K (.ref C) "__getattribute__" = some (some (.builtin "type.__getattribute__"))) (fi : PySem.W.findCls K (.ref C) (.type "type") m = some (.val (.ref f)))
    (l : K.lookup f = some ⟨oc, od, .func (PySem.W.fnOf m q (defArgs st) (defBody st) (defScope st) .none kV doc pm an cdv ct), osl⟩) (c : PySem.W.codeIn K cdv q = true) (k : PySem.W.keepIn K (.ref f) = true)
    (b : ∀ (kV doc pm : Value) (an : Option Addr) (cdv ct : Value) (us : List Value), us.length = ps.length → bindArgs (PySem.W.fnOf m q (defArgs st) (defBody st) (defScope st) .none kV doc pm an cdv ct) ⟨us, []⟩ = pure (ps.zip us)) : TopF K mg x m q st ps :=
  have F := fun_mk (st := st) l c k
  ⟨C, f, _, PySem.W.mg_of X G a, ⟨rd, sg⟩, fi, k, F, F.binds b⟩
theorem TopF.fnS (T : TopF K mg x m q st ps) (Sc : FnScope N ps (defScope st)) (hle : ps.length ≤ N.length)
    (body : ∀ (f : Addr) (cdv : Value) (A : Around) (outer : List Env) (s : Shared) (H : Hp) (E : XK), Room k (A.deeper (envOfC q (defScope st) s.heap.objs.size f cdv)) →
      DSs (cxOf CX0 P wd K mg base N q (defScope st) f cdv A outer s H E).nox W0 (defBody st) g) : CfQ P wd K mg base x m (k + 1) (SpS K ps.length (runS N.length g)) :=
  let ⟨C, f, fd, a, a2, a3, a4, F, b⟩ := T.ex
  ⟨C, f, fd, ps, a, a2, a3, a4, b, fn_st F Sc hle fun cdv A outer s H E hr => body f cdv A outer s H E hr⟩
end
/-! ### isinstance(x, T), T an own class -/
structure IsoP (K : PySem.W.Frag) (mg : Str → Option Value) (x T : Str) (b : Bool) : Prop where
  ex : ∃ C CT, clsIn K x C ∧ mg T = some (.ref CT) ∧ PySem.W.findIn K (.ref C) "__class__" = some (some (.builtin "object.__class__")) ∧ PySem.W.specialIn K (.builtin "object.__class__") "__get__" = some (some (.builtin "getset_descriptor.__get__")) ∧
    PySem.W.takesIn K (.builtin "object.__class__") = some true ∧ PySem.W.mroIn K C (.type "object") = some true ∧ PySem.W.kitOne K (.ref C) (.ref CT) = some b
def isoM (x : Str) (b : Bool) (d : D) : M D := fun s => if (objOf s x d).isSome then .ok (.bl b) s else .bad
theorem de_iso {x T : Str} {b : Bool} {e : Expr} {f : M D} {p p2 pos : Pos} (hc : ClsP X.K x) (I : IsoP X.K X.mg x T b) (hi : X.mg "isinstance" = none) (h : DE X W e f) (hg : Gl X "isinstance" := by rfl) (hg2 : Gl X T := by rfl) (hd : (T == ("__debug__" : Str)) = false := by decide)
    (hst : starEach [e, .Name T p2] X.env = (false, eval e X.env) :: starEach [.Name T p2] X.env := by rfl) (hst2 : starEach [.Name T p2] X.env = (false, eval (.Name T p2) X.env) :: starEach [] X.env := by rfl)
    (hpl : (backTo pos (starEach [.Name T p2] X.env)).any (·.1) = false := by rfl) :
    DE X W (.Call (.Name "isinstance" p) [e, .Name T p2] [] pos) (bnd f (isoM x b)) := by
  obtain ⟨C, CT, hC, hm, k1, k2, k3, k4, k5⟩ := I.ex
  obtain ⟨t, q, k⟩ := h
  refine ⟨_, pe_callB call_isi hg hi (by decide +kernel) (pa_cons q (pa_cons (pe_glob (v := .ref CT) hg2 hm rfl hd) pa_nil hst2) hst) (by decide) (by decide) hst hpl, fun w H σ s Q R z => ?_⟩
  refine k.bnd R z fun d s1 w1 H1 v l1 R1 r1 p1 => ?_
  unfold isoM at p1
  cases ho : objOf s1 x d with
  | none => rw [ho] at p1; exact p1.elim
  | some gs =>
    rw [ho] at p1
    obtain ⟨n, a, C', dx, vs, e0, e1, h1, h2, h3, h4, h5⟩ := R1.obj r1 ho
    cases hC.eq h3
    exact ⟨v, .ref CT, .ref C, .ref CT, b, rfl, .own CT, by rw [e1]; exact .base (.ins h4 (hc C hC) k1 k2 k3 k4), k5, Post.here p1 R1 (Rep.bl _)⟩
theorem isoP_mk {K : PySem.W.Frag} {mg : Str → Option Value} {h : Heap} (X : K.In h) (G : h.Ns mainGlobals mg) {x T : Str} {b : Bool} {C CT : Addr} (a : PySem.W.nsIn K mainGlobals x = some (some (.ref C))) (aT : PySem.W.nsIn K mainGlobals T = some (some (.ref CT)))
    (k1 : PySem.W.findIn K (.ref C) "__class__" = some (some (.builtin "object.__class__"))) (k2 : PySem.W.specialIn K (.builtin "object.__class__") "__get__" = some (some (.builtin "getset_descriptor.__get__"))) (k3 : PySem.W.takesIn K (.builtin "object.__class__") = some true)
    (k4 : PySem.W.mroIn K C (.type "object") = some true) (k5 : PySem.W.kitOne K (.ref C) (.ref CT) = some b) : IsoP K mg x T b := ⟨C, CT, a, PySem.W.mg_of X G aT, k1, k2, k3, k4, k5⟩
/-! ### equal data -/
mutual
def eqOk : D → Bool
  | .non => true
  | .bl _ => true
  | .int _ => true
  | .str x => PySem.PyData.strOk x
  | .tup xs => eqOkL xs
  | .lst xs => eqOkL xs
  | .cell _ => false
  | .ref _ => false
  | .pr _ _ => false
  | .emp => false
def eqOkL : List D → Bool
  | [] => true
  | x :: r => eqOk x && eqOkL r
end
mutual
def dpt : D → Nat
  | .tup xs => dptL xs + 1
  | .lst xs => dptL xs + 1
  | .non => 0
  | .bl _ => 0
  | .int _ => 0
  | .str _ => 0
  | .cell _ => 0
  | .ref _ => 0
  | .pr _ _ => 0
  | .emp => 0
def dptL : List D → Nat
  | [] => 0
  | x :: r => max (dpt x) (dptL r)
end
mutual
theorem dq_self : ∀ (d : D), eqOk d = true → ∃ p, pyT d = some p ∧ p.canLay0 = true ∧ PyData.eqv p p = true ∧ p.depth = dpt d
  | .non, _ => ⟨.none, rfl, rfl, rfl, rfl⟩
  | .bl b, _ => ⟨.bool b, rfl, rfl, by simp [PyData.eqv], rfl⟩
  | .int i, _ => ⟨.int i, rfl, rfl, by simp [PyData.eqv], rfl⟩
  | .str x, h => ⟨.str x, rfl, h, by simp [PyData.eqv], rfl⟩
  | .tup xs, h => by
    obtain ⟨ps, h1, h2, h3, h4⟩ := dq_selfL xs h
    exact ⟨.tuple ps, by unfold pyT; rw [h1]; rfl, h2, h3, by unfold PyData.depth dpt; rw [h4]⟩
  | .lst xs, h => by
    obtain ⟨ps, h1, h2, h3, h4⟩ := dq_selfL xs h
    exact ⟨.list ps, by unfold pyT; rw [h1]; rfl, h2, h3, by unfold PyData.depth dpt; rw [h4]⟩
  | .cell _, h => by cases h
  | .ref _, h => by cases h
  | .pr _ _, h => by cases h
  | .emp, h => by cases h
theorem dq_selfL : ∀ (ds : List D), eqOkL ds = true → ∃ ps, pyL ds = some ps ∧ PyData.canLayAll0 ps = true ∧ PyData.eqvAll ps ps = true ∧ PyData.depthAll ps = dptL ds
  | [], _ => ⟨[], rfl, rfl, rfl, rfl⟩
  | d :: ds, h => by
    have h : (eqOk d && eqOkL ds) = true := h
    rw [Bool.and_eq_true] at h
    obtain ⟨p, a1, a2, a3, a4⟩ := dq_self d h.1
    obtain ⟨ps, b1, b2, b3, b4⟩ := dq_selfL ds h.2
    exact ⟨p :: ps, by unfold pyL; rw [a1, b1], by unfold PyData.canLayAll0; rw [a2, b2]; rfl, by unfold PyData.eqvAll; rw [a3, b3]; rfl, by unfold PyData.depthAll dptL; rw [a4, b4]⟩
end
/-- data that can be compared with itself, not too deep -/
def Eqd (n : Nat) (d : D) : Prop := eqOk d = true ∧ dpt d ≤ n
theorem Eqd.mono {n m : Nat} {d : D} (h : Eqd n d) (l : n ≤ m) : Eqd m d := ⟨h.1, Nat.le_trans h.2 l⟩
theorem eqdL {n : Nat} : ∀ {ds : List D}, (∀ d ∈ ds, Eqd n d) → eqOkL ds = true ∧ dptL ds ≤ n
  | [], _ => ⟨rfl, Nat.zero_le _⟩
  | d :: ds, h => by
    obtain ⟨a1, a2⟩ := h d List.mem_cons_self
    obtain ⟨b1, b2⟩ := eqdL fun e he => h e (List.mem_cons_of_mem _ he)
    exact ⟨by unfold eqOkL; rw [a1, b1]; rfl, by unfold dptL; exact Nat.max_le.mpr ⟨a2, b2⟩⟩
theorem Eqd.tup {n : Nat} {ds : List D} (h : ∀ d ∈ ds, Eqd n d) : Eqd (n + 1) (.tup ds) := ⟨(eqdL h).1, Nat.succ_le_succ (eqdL h).2⟩
theorem Eqd.lst {n : Nat} {ds : List D} (h : ∀ d ∈ ds, Eqd n d) : Eqd (n + 1) (.lst ds) := ⟨(eqdL h).1, Nat.succ_le_succ (eqdL h).2⟩
theorem Eqd.non {n : Nat} : Eqd n .non := ⟨rfl, Nat.zero_le _⟩
theorem Eqd.int {n : Nat} (i : Int) : Eqd n (.int i) := ⟨rfl, Nat.zero_le _⟩
theorem Eqd.bl {n : Nat} (b : Bool) : Eqd n (.bl b) := ⟨rfl, Nat.zero_le _⟩
theorem Eqd.tx {n : Nat} {cs : List Nat} (h : ∀ c ∈ cs, c < 1114112) : Eqd n (.str (tx cs)) := ⟨strOk_tx h, Nat.zero_le _⟩
theorem eqD_self {d : D} {s : S} (h : Eqd 64 d) : eqD d d s = .ok (.bl true) s ∧ neD d d s = .ok (.bl false) s := by
  obtain ⟨p, h1, h2, h3, h4⟩ := dq_self d h.1
  have h5 : pyD s d = some p := by
    cases d with
    | cell n => cases h1
    | _ => exact h1
  have h6 : SeqAt.shaped p = true := by
    unfold SeqAt.shaped
    rw [h2, h4]
    exact decide_eq_true h.2
  unfold eqD neD
  rw [h5]
  dsimp only
  rw [h6, h3]
  exact ⟨rfl, rfl⟩
theorem x_eqSelf {d : D} {s : S} (h : Eqd 64 d) : eqM d d s = .ok (.bl true) s := by
  unfold eqM
  split
  · show Res.ok _ _ = _
    rw [decide_eq_true rfl]
  · exact (eqD_self h).1
theorem x_neSelf {d : D} {s : S} (h : Eqd 64 d) : neM d d s = .ok (.bl false) s := by
  unfold neM
  split
  · show Res.ok _ _ = _
    rw [decide_eq_true rfl]
    rfl
  · exact (eqD_self h).2
theorem pyD_cellL {n : Nat} {ds : List D} {s : S} (h : s.vh[n]? = some (.lst ds)) : pyD s (.cell n) = pyD s (.lst ds) := by
  unfold pyD
  dsimp only
  rw [h]
  rfl
theorem x_neCSelf {n : Nat} {ds : List D} {s : S} (h : s.vh[n]? = some (.lst ds)) (k : Eqd 64 (.lst ds)) : neM (.cell n) (.lst ds) s = .ok (.bl false) s := by
  show neD (.cell n) (.lst ds) s = _
  have := (eqD_self (s := s) k).2
  unfold neD at this ⊢
  rw [pyD_cellL h]
  exact this
theorem x_eqCSelf {n : Nat} {ds : List D} {s : S} (h : s.vh[n]? = some (.lst ds)) (k : Eqd 64 (.lst ds)) : eqM (.cell n) (.lst ds) s = .ok (.bl true) s := by
  show eqD (.cell n) (.lst ds) s = _
  have := (eqD_self (s := s) k).1
  unfold eqD at this ⊢
  rw [pyD_cellL h]
  exact this
end Fx

/-! Fx: text * int -/
namespace Fx
open PySem PySem.Spec PyProof.Rows L2
variable {X : Cx} {W : WX}
def mulSM : D → D → M D
  | .str x, .int n => if (decide (0 ≤ n) && (decide (n ≤ 1000) && decide (x.length ≤ 1000))) = true then ret (.str (Txt.mul x n)) else fail
  | _, _ => fail
theorem mulOk_of {x : Str} {n : Int} (h0 : 0 ≤ n) (h1 : n ≤ 1000) (hx : x.length ≤ 1000) : MulOk x n := by
  refine ⟨?_, fun h _ => ?_, fun h _ => ?_⟩
  · rw [decide_eq_false (by omega), decide_eq_false (by omega)]; rfl
  · have hp : 0 < n := by omega
    have h2 : (x.length : Int) * n ≤ 1000 * 1000 := Int.mul_le_mul (by omega) h1 h0 (by decide)
    have h3 : (x.length : Int) ≤ (2 ^ 63 - 1) / n := (Int.le_ediv_iff_mul_le hp).mpr (by omega)
    omega
  · have h2 : x.length * n.toNat ≤ 1000 * 1000 := Nat.mul_le_mul hx (by omega)
    unfold Builtin.Str.tooLong
    rw [sizeLine_eq]
    exact decide_eq_false (by omega)
theorem op_mulS : OpR X (binaryOp .Mult) (fun x y H Q => ∃ t n, x = V.str t ∧ y = V.int n ∧ MulOk t n ∧ Q (.str (Txt.mul t n)) H) := by
  intro pins s σ H x y v u Q I rx ry h
  obtain ⟨t, n, rfl, rfl, ok, q⟩ := h
  obtain ⟨a, rfl⟩ := rx
  obtain ⟨b, rfl⟩ := ry
  exact SB.mul ok fun t' k => ⟨.str (Txt.mul t n), H, I.tok k, ⟨t', rfl⟩, q⟩
theorem rop_mulS : ROp X (fun x y H Q => ∃ t n, x = V.str t ∧ y = V.int n ∧ MulOk t n ∧ Q (.str (Txt.mul t n)) H) mulSM := by
  intro W w H σ s x y d e Q R rx ry p
  unfold mulSM at p
  split at p
  · next t n =>
    cases rx
    cases ry
    split at p
    · next h =>
      rw [Bool.and_eq_true, Bool.and_eq_true, decide_eq_true_eq, decide_eq_true_eq, decide_eq_true_eq] at h
      exact ⟨t, n, rfl, rfl, mulOk_of h.1 h.2.1 h.2.2, Post.here p R (Rep.str _)⟩
    · exact p.elim
  · exact p.elim
theorem de_mulS {a b : Expr} {fa fb : M D} {pos : Pos} (ha : DE X W a fa) (hb : DE X W b fb) : DE X W (.BinOp a .Mult b pos) (bnd fa fun d => bnd fb fun e => mulSM d e) := de_op op_mulS rop_mulS ha hb
theorem fold_rep (a : Array Nat) : ∀ (k : Nat) (acc : Array Nat) (c : Nat), c ∈ ((List.replicate k a).foldl (· ++ ·) acc).toList → c ∈ acc.toList ∨ c ∈ a.toList
  | 0, acc, c, h => .inl h
  | k + 1, acc, c, h => by
    rw [List.replicate_succ, List.foldl_cons] at h
    rcases fold_rep a k _ c h with h | h
    · rw [Array.toList_append, List.mem_append] at h; exact h
    · exact .inr h
theorem mulS_tx {cs : List Nat} {n : Int} {s : S} (h0 : 0 ≤ n) (h1 : n ≤ 1000) (hl : cs.length ≤ 1000) : ∃ ds : List Nat, (∀ c ∈ ds, c ∈ cs) ∧ mulSM (.str (tx cs)) (.int n) = ret (.str (tx ds)) := by
  have e : mulSM (.str (tx cs)) (.int n) = ret (.str (Txt.mul (tx cs) n)) := by
    show (if _ then _ else _) = _
    rw [if_pos (by rw [decide_eq_true h0, decide_eq_true h1, tx_len, decide_eq_true hl]; rfl)]
  refine ⟨(Txt.mul (tx cs) n).cps.toList, fun c hc => ?_, by rw [e, tx_of]⟩
  unfold Txt.mul at hc
  split at hc
  · cases hc
  · split at hc
    · exact hc
    · rcases fold_rep _ _ _ c hc with h | h
      · cases h
      · exact h
end Fx

/-! Fx: dicts that are walked: locked for one statement or one expression -/
namespace Fx
open PySem PySem.Spec PyProof.Rows L2
variable {X : Cx} {W : WX}
open Classical in
/-- f, while the dict in slot i is locked: what f does must not hang on what stands there -/
noncomputable def lockM {α : Type} (i : Nat) (f : M α) : M α := fun s => match s.loc[i]? with
  | some (some (.cell n)) => match s.vh[n]? with
    | some (.dct kvs) => if h : ∃ r : α × List (Option D) × List Cell, n < r.2.2.length ∧ ∀ o us, f ⟨s.loc, s.vh.set n (.dctL o us kvs)⟩ = .ok r.1 ⟨r.2.1, r.2.2.set n (.dctL o us kvs)⟩ then .ok h.choose.1 ⟨h.choose.2.1, h.choose.2.2.set n (.dct kvs)⟩ else .bad
    | _ => .bad
  | _ => .bad
section
variable {K : PySem.W.Frag} {w : Wd} {H : Hp} {σ : L2.St} {s : S}
theorem RS.cellV (R : RS K w H σ s) {i n : Nat} (h : s.loc[i]? = some (some (.cell n))) : ∃ a, w.ρ[n]? = some a := by
  obtain ⟨v, _, r⟩ := R.loc i _ h
  cases r with
  | cell h => exact ⟨_, h⟩
/-- the state locked -/
theorem RS.lock (R : RS K w H σ s) {n : Nat} {a : Addr} {us : List (Key × V)} {kvs : List (Key × D)} (od : Obj) (h : w.ρ[n]? = some a) (hr : RepK K w us kvs) : RS K w (upd H a (.frz od (.dK us))) σ ⟨s.loc, s.vh.set n (.dctL od us kvs)⟩ := R.setCell h ⟨upd_same, hr⟩
/-- .. and open again -/
theorem RS.unlock {H' : Hp} {σ' : L2.St} {w1 : Wd} {l : List (Option D)} {vh : List Cell} {n : Nat} {a : Addr} {us : List (Key × V)} {kvs : List (Key × D)} {od : Obj} (R : RS K w1 H' σ' ⟨l, vh.set n (.dctL od us kvs)⟩) (h : w1.ρ[n]? = some a) (hn : n < vh.length) :
    H' a = some (.frz od (.dK us)) ∧ RS K w1 (upd H' a (.dK us)) σ' ⟨l, vh.set n (.dct kvs)⟩ := by
  have hc := R.cells n a (.dctL od us kvs) h (List.getElem?_set_self hn)
  obtain ⟨h1, h2⟩ := hc
  have := R.setCell (c := .dct kvs) (o := .dK us) h ⟨us, upd_same, h2⟩
  rw [List.set_set] at this
  exact ⟨h1, this⟩
end
theorem lock_fol {α : Type} {P : Pr V α} {t : TE} {f : M α} {i : Nat} (r : Fol X.K W P t f)
    (hP : ∀ (w : Wd) (H : Hp) (w' : Wd) (H' : Hp) (a : Addr) (o u : HO) (v : V) (x : α), a ∈ w'.ρ → P.p (upd H a o) w' H' v x → P.p H w' (upd H' a u) v x) : Fol X.K W P (tLockE t) (lockM i f) := by
  intro w H σ s Q R z
  unfold lockM at z
  split at z
  · next n hloc =>
    split at z
    · next kvs hvh =>
      split at z
      · next h =>
        obtain ⟨a, hr⟩ := R.cellV hloc
        obtain ⟨us, hH, hrep⟩ := R.cells n a _ hr hvh
        have spec := h.choose_spec
        refine ⟨a, .dK us, hH, trivial, fun od => ?_⟩
        refine r w _ σ _ _ (R.lock od hr hrep) ?_
        rw [spec.2 od us]
        intro w' H' v l R' p
        have hr' : w'.ρ[n]? = some a := l.le.1 _ _ hr
        obtain ⟨h1, h2⟩ := R'.unlock hr' spec.1
        exact ⟨h1, z w' _ v (((Le.write (List.mem_of_getElem? hr)).trans l).trans (Le.write (List.mem_of_getElem? hr'))) h2 (hP w H w' H' a _ _ v _ (List.mem_of_getElem? hr') p)⟩
      · exact z.elim
    · exact z.elim
  · exact z.elim
section
variable {e : Expr} {f : M D} {g : M Cell}
theorem de_lock (i : Nat) (h : DE X W e f) : DE X W e (lockM i f) := by
  obtain ⟨t, p, r⟩ := h
  exact ⟨tLockE t, pe_lock p, lock_fol r fun _ _ _ _ _ _ _ _ _ _ h => h⟩
theorem dn_lock (i : Nat) (h : DN X W e g) : DN X W e (lockM i g) := by
  obtain ⟨t, p, r⟩ := h
  refine ⟨tLockE t, pe_lock p, lock_fol r fun w H w' H' a o u v x ha h => ?_⟩
  obtain ⟨q, e, N⟩ := h
  have hne : q ≠ a := fun z => N.r (z ▸ ha)
  refine ⟨q, e, N.f, N.r, N.c.upW (Wd.le.refl w') (upd_ne hne), ?_⟩
  have := N.n
  rw [upd_ne hne] at this
  exact this
end
theorem ds_lock {st : Stmt} {f : M Out} (i : Nat) (h : DS X W st f) : DS X W st (lockM i f) := by
  obtain ⟨t, p, r⟩ := h
  refine ⟨tLock t, ps_lock p, fun w H σ s D R z => ?_⟩
  unfold lockM at z
  split at z
  · next n hloc =>
    split at z
    · next kvs hvh =>
      split at z
      · next h =>
        obtain ⟨a, hr⟩ := R.cellV hloc
        obtain ⟨us, hH, hrep⟩ := R.cells n a _ hr hvh
        have spec := h.choose_spec
        refine ⟨a, .dK us, hH, trivial, fun od => ?_⟩
        refine r w _ σ _ _ (R.lock od hr hrep) ?_
        rw [spec.2 od us]
        generalize h.choose = rr at *
        obtain ⟨out, l, vh⟩ := rr
        have main : ∀ w' H' σ', Le w (upd H a (.frz od (.dK us))) w' H' → RS X.K w' H' σ' ⟨l, vh.set n (.dctL od us kvs)⟩ → H' a = some (.frz od (.dK us)) ∧ RS X.K w' (upd H' a (.dK us)) σ' ⟨l, vh.set n (.dct kvs)⟩ ∧ Le w H w' (upd H' a (.dK us)) := fun w' H' σ' l' R' => by
          have hr' : w'.ρ[n]? = some a := l'.le.1 _ _ hr
          obtain ⟨h1, h2⟩ := R'.unlock hr' spec.1
          exact ⟨h1, h2, ((Le.write (List.mem_of_getElem? hr)).trans l').trans (Le.write (List.mem_of_getElem? hr'))⟩
        cases out with
        | rt d => exact fun w' H' σ' v l' R' rv => let ⟨h1, h2, h3⟩ := main w' H' σ' l' R'; ⟨h1, z w' _ σ' v h3 h2 rv⟩
        | nx => exact fun w' H' σ' l' R' => let ⟨h1, h2, h3⟩ := main w' H' σ' l' R'; ⟨h1, z w' _ σ' h3 h2⟩
        | brk => exact fun w' H' σ' l' R' => let ⟨h1, h2, h3⟩ := main w' H' σ' l' R'; ⟨h1, z w' _ σ' h3 h2⟩
        | cnt => exact fun w' H' σ' l' R' => let ⟨h1, h2, h3⟩ := main w' H' σ' l' R'; ⟨h1, z w' _ σ' h3 h2⟩
      · exact z.elim
    · exact z.elim
  · exact z.elim
/-! ### for k in d -/
def keyV : Key → D
  | .inl i => .int i
  | .inr x => .str x
def keysI (d : D) : M Wk := fun s => match d with
  | .cell n => match s.vh[n]? with
    | some (.dctL o us kvs) => .ok ⟨kvs.map fun kv => keyV kv.1, fun s' => s'.vh[n]? = some (.dctL o us kvs)⟩ s
    | _ => .bad
  | _ => .bad
theorem RepK.atK {K : PySem.W.Frag} {w : Wd} {us : List (Key × V)} {kvs : List (Key × D)} {k : Key} {v : V} (h : RepK K w us kvs) : ∀ {i : Nat}, us[i]? = some (k, v) → ∃ d, kvs[i]? = some (k, d) := by
  induction h with
  | nil => intro i h; simp at h
  | cons r t ih =>
    intro i h
    cases i with
    | zero => cases h; exact ⟨_, rfl⟩
    | succ i => exact ih h
theorem pI_keys {K : PySem.W.Frag} {w0 : Wd} {a : Addr} {n : Nat} {o : Obj} {us : List (Key × V)} {kvs : List (Key × D)} (r : w0.ρ[n]? = some a) : wkI K w0 (Itk a o us) ⟨kvs.map fun kv => keyV kv.1, fun s' => s'.vh[n]? = some (.dctL o us kvs)⟩ := by
  intro w H σ s l R hok i
  obtain ⟨h1, h2⟩ := R.cells n a _ (l.1 _ _ r) hok
  have hl := RepK.length h2
  refine ⟨fun hi => ⟨h1, by rw [List.length_map] at hi; omega⟩, fun hi => ⟨h1, by rw [List.length_map] at hi; omega⟩, fun x H' hy d hd => ?_⟩
  obtain ⟨rfl, k, v, hu, rfl⟩ := hy
  obtain ⟨d', hd'⟩ := h2.atK hu
  rw [List.getElem?_map, hd'] at hd
  cases hd
  refine ⟨w, Le.refl _ _, R, ?_⟩
  cases k with
  | inl i => exact .int i
  | inr x => exact .str x
theorem di_keys {tg e : Expr} {f : M D} (h : DE X W e f) : DI X W tg e (bnd f keysI) := by
  obtain ⟨t, p, r⟩ := h
  refine ⟨_, pi_keys p, fun w H σ s R0 R z => ?_⟩
  refine r.bnd R z fun d s1 w1 H1 v l1 R1 r1 p1 => ?_
  unfold keysI at p1
  split at p1
  · next n =>
    split at p1
    · next o us kvs hvh =>
      cases r1 with
      | @cell a n hr =>
        obtain ⟨h1, h2⟩ := R1.cells n a _ hr hvh
        exact ⟨a, o, rfl, .inl ⟨us, h1, p1 w1 H1 _ (Le.refl _ _) R1 (pI_keys hr)⟩⟩
    · exact p1.elim
  · exact p1.elim
open Classical in
/-- a locked step, from what it does whatever stands there -/
theorem x_lock {α : Type} {i n : Nat} {f : M α} {l l' : List (Option D)} {vh vh' : List Cell} {kvs : List (Key × D)} {a : α} (h1 : l[i]? = some (some (.cell n))) (h2 : vh[n]? = some (.dct kvs)) (hn : n < vh'.length)
    (h : ∀ o us, f ⟨l, vh.set n (.dctL o us kvs)⟩ = .ok a ⟨l', vh'.set n (.dctL o us kvs)⟩) : lockM i f ⟨l, vh⟩ = .ok a ⟨l', vh'.set n (.dct kvs)⟩ := by
  have ex : ∃ r : α × List (Option D) × List Cell, n < r.2.2.length ∧ ∀ o us, f ⟨l, vh.set n (.dctL o us kvs)⟩ = .ok r.1 ⟨r.2.1, r.2.2.set n (.dctL o us kvs)⟩ := ⟨(a, l', vh'), hn, h⟩
  unfold lockM
  dsimp only
  rw [h1]
  dsimp only
  rw [h2]
  dsimp only
  rw [dif_pos ex]
  have sp := ex.choose_spec
  generalize ex.choose = rr at *
  obtain ⟨b, m, vh2⟩ := rr
  dsimp only at sp ⊢
  have o0 : Obj := { cls := .none, data := .plain }
  have e := (h o0 []).symm.trans (sp.2 o0 [])
  injection e with e1 e2
  injection e2 with e3 e4
  subst e1 e3
  have e5 : vh'.set n (.dct kvs) = vh2.set n (.dct kvs) := by
    have := congrArg (fun v => v.set n (Cell.dct kvs)) e4
    simpa [List.set_set] using this
  rw [e5]
end Fx

/-! Fx: sets of texts, made of lists, sorted -/
namespace L2
open PySem PySem.Spec PyProof.Rows
def txOf (e : Int × Value) : Str := match e.2 with
  | .str x _ => x
  | _ => Str.empty
def TGood (w : World) (e : Int × Value) : Prop := ∃ x tk, e.2 = Value.str x tk ∧ e.1 = hashStr w x
/-- at a stands the set of the texts for which T holds, n in all; its table rises and can be walked -/
def SetT (w : World) (h : Heap) (a : Addr) (T : Str → Prop) (n : Nat) : Prop :=
  ∃ ob es ep tb, h.get? a = some ob ∧ ob.ExactSet ∧ ob.data = .set es ep tb ∧ (∀ e ∈ es.toList, TGood w e) ∧ (es.toList.map txOf).Nodup ∧ (∀ x, T x ↔ x ∈ es.toList.map txOf) ∧
    es.size < scanBound ∧ tb.fits es.size = true ∧ es.size = n ∧ Ris tb.place.toList ∧ (w.params.followText "set-order" = true ∨ tb.led = true)
section
variable {P : Program} {w : World} {h h' : Heap} {a : Addr} {T : Str → Prop} {n : Nat}
theorem SetT.at (R : SetT w h a T n) (k : ∀ o, h.get? a = some o → h'.get? a = some o) : SetT w h' a T n := let ⟨ob, es, ep, tb, g, r⟩ := R; ⟨ob, es, ep, tb, k ob g, r⟩
theorem SetT.congr {T' : Str → Prop} (R : SetT w h a T n) (e : ∀ x, T' x ↔ T x) : SetT w h a T' n := by
  have : T' = T := funext fun x => propext (e x)
  rw [this]; exact R
theorem tgood_elems {l : List (Int × Value)} (g : ∀ e ∈ l, TGood w e) : ElemsOf (PySem.strKind P w) l := fun e he => by
  obtain ⟨x, tk, e1, e2⟩ := g e he
  exact ⟨⟨x, by rw [e1]; exact strKind_is P w x tk, e2⟩, by rw [e1]; rfl⟩
theorem tgood_is {e : Int × Value} (g : TGood w e) (x : Str) : (PySem.strKind P w).is x e.2 = true ↔ txOf e = x := by
  obtain ⟨y, tk, e1, _⟩ := g
  unfold txOf
  rw [e1]
  show ((y == x) = true) ↔ y = x
  exact beq_iff_eq
theorem tgood_mem {l : List (Int × Value)} (g : ∀ e ∈ l, TGood w e) (x : Str) : x ∈ l.map txOf ↔ ∃ e ∈ l, (PySem.strKind P w).is x e.2 = true := by
  rw [List.mem_map]
  exact ⟨fun ⟨e, he, q⟩ => ⟨e, he, (tgood_is (g e he) x).2 q⟩, fun ⟨e, he, q⟩ => ⟨e, he, (tgood_is (g e he) x).1 q⟩⟩
end
section
variable {P : Program} {w : World} {A : Around} {E : Value → Shared → Prop} {s : Shared} {a : Addr} {T : Str → Prop} {n : Nat}
theorem setT_tail {g : Bool → Sem Unit} (hg : ∀ (b : Bool) (z : Shared) (Q' : Unit → Shared → Prop), Q' () z → wpAny (model P w) A (g b) Q' E z)
    {ob : Obj} {es : Array (Int × Value)} {ep : Nat} {tb : SetTable} (ho : s.heap.get? a = some ob) (hx : ob.ExactSet) (hd : ob.data = .set es ep tb)
    {fs : Array (Int × Value)} {t2 : SetTable} {T' : Str → Prop} (c1 : ∀ e ∈ fs.toList, TGood w e) (c2 : (fs.toList.map txOf).Nodup) (c3 : ∀ x, T' x ↔ x ∈ fs.toList.map txOf)
    (c4 : fs.size < scanBound) (c5 : t2.fits fs.size = true) (c6 : Ris t2.place.toList) (c7 : w.params.followText "set-order" = true ∨ t2.led = true) {dm : Bool} {R : Option Bool → Shared → Prop}
    (fin : ∀ h', Heap.SameBut a s.heap h' → SetT w h' a T' fs.size → R (some true) { s with heap := h' }) :
    wpAny (model P w) A (do
      storeSet a fs t2
      if (!dm && t2.tooFull) = true then do
        g (relayAll t2 fs (SetTable.grown fs.size)).2.2
        storeSet a (relayAll t2 fs (SetTable.grown fs.size)).1 (relayAll t2 fs (SetTable.grown fs.size)).2.1
        pure (some true)
      else pure (some true)) R E s := by
  refine wpAny_bind (wpAny_storeSet_of ho hd ?_ (fits_of_scanBound c4))
  have at1 := store_at (es' := fs) (t' := t2) ho hd
  have same1 := Heap.SameBut.update s.heap a (Obj.putSet fs t2)
  split
  · have p1 := relayAll_perm t2 fs (SetTable.grown fs.size)
    have p2 := relayAll_fits t2 fs (SetTable.grown fs.size)
    have p3 := relayAll_ris t2 fs (SetTable.grown fs.size)
    have p4 := relayAll_led t2 fs (SetTable.grown fs.size)
    generalize relayAll t2 fs (SetTable.grown fs.size) = Y at p1 p2 p3 p4 ⊢
    obtain ⟨gs, t3, gave⟩ := Y
    dsimp only at p1 p2 p3 p4 ⊢
    have many : gs.size = fs.size := by rw [← Array.length_toList, p1.length_eq, Array.length_toList]
    have c4' : gs.size < scanBound := by rw [many]; exact c4
    refine wpAny_bind (hg _ _ _ (wpAny_bind (wpAny_storeSet_of at1 rfl ?_ (fits_of_scanBound c4'))))
    have at2 := store_at (es' := gs) (t' := t3) at1 rfl
    refine wpAny_pure (fin _ (same1.trans (Heap.SameBut.update _ a _)) ⟨_, gs, _, t3, at2, hx, rfl, fun e he => c1 e (p1.mem_iff.mp he), (p1.map txOf).nodup_iff.mpr c2,
      fun x => (c3 x).trans (p1.map txOf).mem_iff.symm, c4', p2, many, p3, c7.imp id fun z => by rw [p4]; exact z⟩)
  · exact wpAny_pure (fin _ same1 ⟨_, fs, _, t2, at1, hx, rfl, c1, c2, c3, c4, c5, rfl, c6, c7⟩)
theorem setT_add {x : Str} {tk : Tok} {Q : Bool → Shared → Prop} (R : SetT w s.heap a T n) (room : n + 1 < scanBound)
    (fin : ∀ (h' : Heap) (b : Bool) (m : Nat), Heap.SameBut a s.heap h' → m ≤ n + 1 → SetT w h' a (fun y => T y ∨ y = x) m → Q b { s with heap := h' }) :
    wpAny (model P w) A (setAddHashed a (.str x tk) ((PySem.strKind P w).hash x)) Q E s := by
  obtain ⟨ob, es, ep, tb, ho, hx, hd, c1, c2, c3, c4, c5, rfl, c6, c7⟩ := R
  have kx : (PySem.strKind P w).is x (.str x tk) = true := strKind_is P w x tk
  have sx : (Value.str x tk).scannable = true := rfl
  have el : ElemsOf (PySem.strKind P w) es.toList := tgood_elems c1
  unfold setAddHashed setAddHashedIn
  refine wpAny_holding (wpAny_bind (wpAny_setState_of ho hd c5 ?_))
  dsimp only
  rw [byScan_of sx c4 el]
  simp only [↓reduceIte]
  unfold setAddByScan
  refine wpAny_bind (wpAny_bind (wpAny_rule (wpAny_bind (wpAny_setScan_of kx ho hd c5 el ?_))))
  cases hfi : List.findIdx? (fun e => (PySem.strKind P w).is x e.2) es.toList with
  | some j =>
    dsimp only
    obtain ⟨hj, pj, _⟩ := List.findIdx?_eq_some_iff_getElem.mp hfi
    have tx : T x := (c3 x).2 ((tgood_mem (P := P) c1 x).2 ⟨es.toList[j], List.getElem_mem hj, pj⟩)
    exact wpAny_pure (wpAny_pure (fin s.heap _ es.size (Heap.SameBut.refl a s.heap) (Nat.le_succ _) ⟨ob, es, ep, tb, ho, hx, hd, c1, c2, fun y => by
      rw [← c3 y]
      exact ⟨fun z => z.elim id fun e => e ▸ tx, .inl⟩, c4, c5, rfl, c6, c7⟩))
  | none =>
    dsimp only
    have nx : x ∉ es.toList.map txOf := fun z => by
      obtain ⟨e, he, q⟩ := (tgood_mem (P := P) c1 x).1 z
      have c := List.findIdx?_eq_none_iff.mp hfi e he
      rw [q] at c
      cases c
    have gw : ∀ (b : Bool) {z : Shared} {Q' : Unit → Shared → Prop}, Q' () z → wpAny (model P w) A (match b with | true => rule "set.scan.the-table-gave-way" | false => pure ()) Q' E z :=
      fun b z Q' q => by cases b <;> first | exact wpAny_pure q | exact wpAny_rule q
    have p1 := layNew_perm tb es ((PySem.strKind P w).hash x) (.str x tk)
    have p2 := layNew_fits tb es ((PySem.strKind P w).hash x) (.str x tk)
    have p3 := layNew_ris tb es ((PySem.strKind P w).hash x) (.str x tk) c6
    have p4 := layNew_led tb es ((PySem.strKind P w).hash x) (.str x tk)
    generalize layNew tb es ((PySem.strKind P w).hash x) (.str x tk) = Y at p1 p2 p3 p4 ⊢
    obtain ⟨fs, t1, dm, gave⟩ := Y
    dsimp only at p1 p2 p3 p4 ⊢
    rw [Array.toList_push] at p1
    have pc : fs.toList.Perm (((PySem.strKind P w).hash x, Value.str x tk) :: es.toList) := p1.trans (List.perm_append_singleton _ _)
    have pk : (fs.toList.map txOf).Perm (x :: es.toList.map txOf) := pc.map txOf
    have d1 : ∀ e ∈ fs.toList, TGood w e := fun e he => by
      rcases List.mem_cons.mp (pc.mem_iff.mp he) with z | z
      · rw [z]; exact ⟨x, tk, rfl, rfl⟩
      · exact c1 e z
    have d2 : (fs.toList.map txOf).Nodup := pk.nodup_iff.mpr (List.nodup_cons.mpr ⟨nx, c2⟩)
    have d3 : ∀ y, (T y ∨ y = x) ↔ y ∈ fs.toList.map txOf := fun y => by
      rw [c3 y, pk.mem_iff, List.mem_cons]
      exact Or.comm
    have many : fs.size = es.size + 1 := by rw [← Array.length_toList, pc.length_eq, List.length_cons, Array.length_toList]
    have d4 : fs.size < scanBound := by rw [many]; exact room
    have d7 : w.params.followText "set-order" = true ∨ t1.led = true := c7.imp id fun z => by rw [p4]; exact z
    have over : ∀ h', Heap.SameBut a s.heap h' → SetT w h' a (fun y => T y ∨ y = x) fs.size → Q true { s with heap := h' } := fun h' sb r => fin h' true _ sb (Nat.le_of_eq many) r
    refine wpAny_bind (gw _ ?_)
    split
    · refine wpAny_bind ?_
      rw [hashByValue_scannable 8 sx]
      refine wpAny_pure (setT_tail ?_ ho hx hd d1 d2 d3 d4 ?_ ?_ ?_ fun h' sb r => by dsimp only; exact wpAny_pure (over h' sb r))
      · intro b z Q' q; cases b <;> first | exact wpAny_pure q | exact wpAny_rule q
      · first | (split <;> first | exact p2 | exact SetTable.fits_plain_off p2) | exact p2
      · first | (split <;> exact p3) | exact p3
      · first | (split <;> exact d7) | exact d7
    · refine wpAny_bind (wpAny_pure ?_)
      simp only [↓reduceIte]
      refine setT_tail ?_ ho hx hd d1 d2 d3 d4 p2 p3 d7 fun h' sb r => by dsimp only; exact wpAny_pure (over h' sb r)
      intro b z Q' q; cases b <;> first | exact wpAny_pure q | exact wpAny_rule q
end
section
variable {P : Program} {w : World} {A : Around} {E : Value → Shared → Prop} {s : Shared}
theorem setT_new {h : Heap} {a : Addr} {xs : List Str} (ho : h.get? a = some (bareSet w)) : SetT w h a (fun y => y ∈ xs.take 0) 0 :=
  ⟨_, #[], 0, _, ho, ⟨rfl, rfl, rfl⟩, rfl, (fun e he => by simp at he), (by simp), (fun x => by simp), (by decide), (by rfl), rfl, List.Pairwise.nil, by
    show _ ∨ (!w.params.followText "set-order") = true
    cases w.params.followText "set-order"
    · exact .inr rfl
    · exact .inl rfl⟩
theorem setT_update {I : Addr} {fp wr : List Addr} {G : Array GenState → Array GenState → Prop} {n : Nat} {Pv : Nat → Value → Prop} {St : Nat → Shared → Prop} {R : Result → Shared → Prop}
    (W : WalksS P w A.in1 I fp wr G n Pv St) (b : Addr) (out : b ∉ fp) (xs : List Str) (hn : n = xs.length) (hb : xs.length + 1 < scanBound) (hv : ∀ i v, Pv i v → ∃ x t, xs[i]? = some x ∧ v = .str x t) :
    ∀ (k i : Nat) (s : Shared), n - i = k → i ≤ n → St i s → (∃ c, c ≤ i ∧ SetT w s.heap b (fun y => y ∈ xs.take i) c) →
      (∀ s' c, Moved (b :: wr) G s s' → c ≤ n → SetT w s'.heap b (fun y => y ∈ xs) c → R (.ok (.ret .none)) s') →
      codeAny (model P w) A (.builtin "set.update.loop" ⟨[.ref b, .ref I], []⟩) R s := by
  have nw : b ∉ wr := fun h => out (W.sub _ h)
  have sub : ∀ c ∈ wr, c ∈ b :: wr := fun c hc => List.mem_cons_of_mem _ hc
  intro k
  induction k with
  | zero =>
    intro i s hk hi st ⟨c, hc, S⟩ fin
    obtain rfl : i = n := by omega
    refine codeAny_builtin F.entry_set_update_loop ?_
    rw [Around.under_plainId F.plain_set_update_loop _]
    refine wpAny_bind (m := pyNext (.ref I)) (W.done s _ _ st fun s' mv => ?_)
    rw [List.take_of_length_le (Nat.le_of_eq hn.symm)] at S
    exact wpAny_pure (fin s' c (mv.mono sub) hc (S.at fun o e => mv.heap b o nw e))
  | succ k ih =>
    intro i s hk hi st ⟨c, hc, S⟩ fin
    have lt : i < n := by omega
    refine codeAny_builtin F.entry_set_update_loop ?_
    rw [Around.under_plainId F.plain_set_update_loop _]
    refine wpAny_bind (m := pyNext (.ref I)) (W.item i s _ _ lt st fun v s' pv st' mv => ?_)
    obtain ⟨x, t, hx, rfl⟩ := hv i v pv
    have S' : SetT w s'.heap b (fun y => y ∈ xs.take i) c := S.at fun o e => mv.heap b o nw e
    refine wpAny_bind (m := holding [Value.str x t] (setAdd b (.str x t))) (wpAny_holding ?_)
    unfold setAdd
    refine wpAny_holding (wpAny_bind ((PySem.strKind P w).pyHash (k := x) (strKind_is _ _ _ _) ?_))
    refine setT_add (s := { s' with toks := s'.toks + 1 }) S' (by omega) fun h' g m sb hm S2 => ?_
    have S3 : SetT w h' b (fun y => y ∈ xs.take (i + 1)) m := S2.congr fun y => by
      rw [List.take_add_one, hx]
      simp [List.mem_append]
    refine wpAny_pure ⟨plainId_quiet F.plain_set_update_loop _, ih (i + 1) _ (by omega) lt (W.frame _ s' _ _ st' (Nat.le_succ _) fun c hc o e => ?_) ⟨m, by omega, S3⟩ fun s2 c2 mv2 hc2 S4 => ?_⟩
    · rw [sb.2 c (fun h : c = b => out (by rw [← h]; exact hc))]; exact e
    · refine fin s2 c2 (Moved.trans W.gtrans ((mv.mono sub).then_heap (Nat.le_succ _) fun c o hc e => ?_) mv2) hc2 S4
      rw [sb.2 c (fun h : c = b => hc (by rw [h]; exact List.mem_cons_self))]; exact e
/-- set(xs) of a list of texts, the set's inside told -/
theorem setT_of_list {l : Addr} {items : Array Value} (xs : List Str) {Q : Value → Shared → Prop} (hh : A.handled = none) (hl : s.heap.IsList l items) (hit : StrsAre items.toList xs) (hb : xs.length + 1 < scanBound)
    (k : ∀ (h' : Heap) (tk c : Nat), SetT w h' s.heap.objs.size (fun y => y ∈ xs) c → c ≤ xs.length → (∀ b o, s.heap.get? b = some o → h'.get? b = some o) → Q (.ref s.heap.objs.size) { s with heap := h', toks := tk }) :
    wpAny (model P w) A (call (.type "set") [.ref l]) Q E s := by
  have many : items.size = xs.length := by rw [← Array.length_toList]; exact hit.length
  obtain ⟨c, tl, hmro⟩ := F.called_set.mro
  have a1 := F.called_set.made
  have a2 := F.called_set.sub
  refine wpAny_call (codeAny_of_tree (wpAny_pure ⟨Code.quiet_builtin _ (by decide +kernel), codeAny_builtin F.entry_type_call ?_⟩ : wpAny _ _ (callAny (.type "set") _) _ _ _))
  rw [Around.under_plain (weight_type_call_type "set" [.ref l] []) rfl]
  have a3 := F.called_set.notType
  have a4 := F.called_set.canCreate
  have a5 := F.typeCall_set_1 (.ref l)
  repeat (any_goals (first | assumption | wp_step))
  refine codeAny_mono (code_set_led1 (.ref l) (E := E) (Q₁ := fun obj s₁ => obj = .ref s.heap.objs.size ∧ s₁ = { s with heap := s.heap.push (bareSet w) }) ⟨rfl, rfl⟩) fun r s₁ hr => ?_
  match r, hr with
  | .error e, hr => exact hr
  | .ok (.ret obj), hr =>
    obtain ⟨rfl, rfl⟩ := hr
    have here : (s.heap.push (bareSet w)).get? s.heap.objs.size = some (bareSet w) := Heap.get?_push_size _ rfl
    have isSet : Shared.TypeIs { s with heap := s.heap.push (bareSet w) } (.ref s.heap.objs.size) "set" := ⟨_, here, rfl⟩
    have b1 := F.called_set.init.lookup
    have b2 := F.called_set.init.bind (.ref s.heap.objs.size)
    repeat (any_goals (first | assumption | wp_step))
    refine codeAny_mono (codeAny_call_builtin (R := wants (fun r s₂ => r = .none ∧ ∃ h' tk c, s₂ = { s with heap := h', toks := tk } ∧ SetT w h' s.heap.objs.size (fun y => y ∈ xs) c ∧ c ≤ xs.length ∧ (∀ b o, s.heap.get? b = some o → h'.get? b = some o)) E)
      F.called_set.init.plain F.entry_set_init (check_set_init_1 isSet ?_)) fun r₂ s₂ hr₂ => ?_
    · obtain ⟨⟨cl0, di0, da0, sl0⟩, at0, rfl, n0, rfl⟩ := hl
      have at1 : (s.heap.push (bareSet w)).get? l = some { cls := .type "list", dict := di0, data := .seq items n0, slots := sl0 } := Heap.get?_push_of_some _ at0
      have c1 := F.sub_list_set
      have c2 := F.sub_list_frozenset
      have c3 : (Value.type "list" == Value.type "dict") = false := by decide
      have list1 : (s.heap.push (bareSet w)).IsList l items := ⟨_, at1, rfl, n0, rfl⟩
      unfold Builtin.«set.__init__» noKeywords Builtin.Frozenset.updateFrom
      generalize hPI : pyIter = PI
      wp_walk
      subst hPI
      refine wpAny_pyIter_list list1 (wpAny_bind (wpAny_runValue ?_))
      have lt0 : l < s.heap.objs.size := Heap.lt_size at0
      have quiet : A.in1.in1.in1.handled = none := by simp [hh]
      have sz : (s.heap.push (bareSet w)).objs.size = s.heap.objs.size + 1 := Heap.size_push ..
      have ne1 : l ≠ (s.heap.push (bareSet w)).objs.size := by rw [sz]; exact Nat.ne_of_lt (Nat.lt_succ_of_lt lt0)
      have out1 : s.heap.objs.size ∉ [(s.heap.push (bareSet w)).objs.size, l] := by simp only [List.mem_cons, List.not_mem_nil, or_false, not_or]; rw [sz]; exact ⟨Nat.ne_of_lt (Nat.lt_succ_self _), Nat.ne_of_gt lt0⟩
      have each : ∀ (i : Nat) (v : Value), items[i]? = some v → ∃ x t, xs[i]? = some x ∧ v = .str x t := fun i v hv => by
        have hi : i < xs.length := by rw [← many]; exact (Array.getElem?_eq_some_iff.mp hv).1
        obtain ⟨t, e⟩ := SS.strs_at hit i v (by rw [Array.getElem?_toList]; exact hv)
        exact ⟨xs[i], t, List.getElem?_eq_getElem hi, by rw [e, List.getD_eq_getElem?_getD, List.getElem?_eq_getElem hi]; rfl⟩
      refine setT_update ((Walks.list quiet _ l ne1 items).toS) s.heap.objs.size out1 xs many hb each (items.size - 0) 0 _ (by omega) (Nat.zero_le _) ⟨⟨_, Heap.get?_push_size _ rfl, rfl, rfl⟩, (list1.push _)⟩ ⟨0, Nat.le_refl 0, setT_new (Heap.get?_push_of_some _ here)⟩ ?_
      rintro ⟨h', g2, d', tk', os'⟩ c' mv hc' hS'
      obtain rfl : g2 = s.gens := mv.gens
      obtain rfl : d' = s.drawn := mv.drawn
      obtain rfl : os' = s.os := mv.os
      show wpAny _ _ _ _ _ _
      refine wpAny_pure ?_
      show wpAny _ _ (ret Value.none) _ _ _
      refine wpAny_pure ⟨rfl, h', tk', c', rfl, hS', by rw [← many]; exact hc', fun b o e => ?_⟩
      have lt1 : b < s.heap.objs.size := Heap.lt_size e
      exact mv.heap b o (by simp only [List.mem_cons, List.not_mem_nil, or_false, not_or]; rw [sz]; exact ⟨Nat.ne_of_lt lt1, Nat.ne_of_lt (Nat.lt_succ_of_lt lt1)⟩) (Heap.get?_push_of_some _ (Heap.get?_push_of_some _ e))
    · match r₂, hr₂ with
      | .error e, hr₂ => exact hr₂
      | .ok (.ret r), hr₂ =>
        obtain ⟨rfl, h', tk, c, rfl, hS', hc', hk'⟩ := hr₂
        repeat (any_goals (first | assumption | wp_step))
        exact k _ _ _ hS' hc' hk'
def SetTO (w : World) (a : Addr) (T : Str → Prop) (n : Nat) : HO := .ext fun h => SetT w h a T n
end
section
variable {X : Cx}
theorem setTO_new {w : World} {P : Program} {H : Hp} {h : Heap} {a : Addr} {T : Str → Prop} {n : Nat} (R : SetT w h a T n) : ObjOk P w H h a (SetTO w a T n) := let ⟨o, _, _, _, ho, _⟩ := R; ⟨R, ⟨o, ho⟩, fun h1 h2 p k => SetT.at p k⟩
def rSetOfT (K : PySem.W.Frag) (w : World) : List V → Hp → VK → Prop := fun vs H Q => ∃ (a : Addr) (xs : List Str), vs = [V.ref a] ∧ SqL K H a (xs.map V.str) ∧ xs.length + 1 < scanBound ∧ ∀ (p : Addr) (n : Nat), H p = none → n ≤ xs.length → Q (.ref p) (upd H p (SetTO w p (fun y => y ∈ xs) n))
theorem cr_setOfT (hc : X.calm = true) : CallR X (.type "set") (rSetOfT X.K X.w) := by
  intro pins s σ H vs us Q I r h
  obtain ⟨a, xs, rfl, hs, hb, q⟩ := h
  obtain ⟨its, rv, hl, hz⟩ := I.list hs
  rw [Vals.ref1 r]
  refine setT_of_list xs (I.ok.hd hc) hl.isList (by simpa using strsAre_of rv) hb fun h' tk c R hc' keep => ?_
  exact ⟨.ref _, upd H s.heap.objs.size (SetTO X.w s.heap.objs.size (fun y => y ∈ xs) c), I.laid (t' := tk) keep (Nat.le_refl _) (setTO_new R), rfl, q _ _ (I.hok.fresh (Nat.le_refl _)) hc'⟩
/-- sorted(found), fewer than 64 texts -/
def rSortedSetT (w : World) : List V → Hp → VK → Prop := fun vs H Q => ∃ (a : Addr) (T : Str → Prop) (n : Nat), vs = [V.ref a] ∧ H a = some (SetTO w a T n) ∧ n < 64 ∧
  ∀ (ys : List Str) (p : Addr), sortedS ys = true → ys.Nodup → (∀ y, y ∈ ys ↔ T y) → H p = none → Q (.ref p) (upd H p (.lst (ys.map V.str)))
theorem txs_are : ∀ (l : List Value), (∀ v ∈ l, ∃ x tk, v = Value.str x tk) → ∃ xs, StrsAre l xs ∧ xs = l.map fun v => txOf (0, v)
  | [], _ => ⟨[], .nil, rfl⟩
  | v :: l, h => by
    obtain ⟨x, tk, rfl⟩ := h v List.mem_cons_self
    obtain ⟨xs, q, rfl⟩ := txs_are l fun u hu => h u (List.mem_cons_of_mem _ hu)
    exact ⟨_, .cons x tk q, rfl⟩
theorem cr_sortedSetT (hc : X.calm = true) : CallR X (.builtin "sorted") (rSortedSetT X.w) := by
  intro pins s σ H vs us Q I r h
  obtain ⟨a, T, n, rfl, ha, h64, q⟩ := h
  obtain ⟨ob, es, ep, tb, ho, hx, hd, c1, c2, c3, c4, c5, rfl, c6, c7⟩ := (show SetT X.w s.heap a T n from (I.hok a _ ha).1)
  rw [Vals.ref1 r]
  refine Calls.call_function_entry PyProof.Rows.kind_sorted PyProof.Rows.plain_sorted PyProof.Rows.entry_sorted (PyProof.Rows.args_sorted1 _) ?_
  unfold Builtin.«sorted»
  refine wpAny_bind (m := checkCount "sorted" 1 1 _) (wpAny_pure (wpAny_bind (collect_set (A := X.A.in1) (I.ok.hd hc) ⟨ob, ho, hx.1, hd⟩ c5 c4 c6 c7 fun s1 ws k1 hz g1 o1 pm => ?_)))
  have many : ws.length = es.size := by rw [pm.length_eq, List.length_map, Array.length_toList]
  obtain ⟨xs, are, exs⟩ := txs_are ws fun v hv => by
    obtain ⟨e, he, q⟩ := List.mem_map.mp (pm.mem_iff.mp hv)
    obtain ⟨x, tk, h1, _⟩ := c1 e he
    exact ⟨x, tk, by rw [← q]; exact h1⟩
  have pk : xs.Perm (es.toList.map txOf) := by
    rw [exs]
    have z := pm.map fun v => txOf (0, v)
    rw [List.map_map] at z
    exact z
  refine wpAny_bind (wpAny_newList ?_ (by rw [many, sizeLine_eq]; omega))
  have new : (s1.heap.push (seqObj "list" ws.toArray 0)).get? s1.heap.objs.size = some (seqObj "list" ws.toArray 0) := Heap.get?_push_size _ rfl
  refine wpAny_bind (wpAny_holding (wpAny_call_entry PyProof.Rows.slot_list_sort ⟨_, new, rfl⟩ PyProof.Rows.entry_list_sort
    (list_sort_treeK strKind_oneLt (s := { s1 with heap := s1.heap.push (seqObj "list" ws.toArray 0) }) new are.keysOf (fun v₁ v₂ rest e => keyKind_strs (by rw [← e]; exact are)) (by rw [many]; exact h64) fun st hp hs => ⟨_, rfl, ?_⟩)
    (PyProof.Rows.args_list_sort _)))
  obtain ⟨ys, y1, y2, y3⟩ := sorted_out_str are hp hs
  obtain ⟨e', he'⟩ := PyProof.Rows.sortedHeap_at (vs := ws) (out := (arrOf st).map (·.2)) new
  have py := y2.trans pk
  have short : (ys.map V.str).length ≤ sizeLine := by rw [List.length_map, py.length_eq, List.length_map, Array.length_toList, sizeLine_eq]; omega
  have free : H s1.heap.objs.size = none := I.hok.fresh hz
  have keep : ∀ b u, s.heap.get? b = some u → (sortedHeap (s1.heap.push (seqObj "list" ws.toArray 0)) s1.heap.objs.size ws ((arrOf st).map (·.2))).get? b = some u := fun b u e => by
    have e1 := k1 b u e
    have lt := Heap.lt_size e1
    rw [PyProof.Rows.sortedHeap_old (Nat.ne_of_lt lt) (by rw [size_push']; exact Nat.lt_succ_of_lt lt)]
    exact Heap.get?_push_of_some _ e1
  have J : Inv X pins σ (upd H s1.heap.objs.size (.lst (ys.map V.str))) { s with heap := sortedHeap (s1.heap.push (seqObj "list" ws.toArray 0)) s1.heap.objs.size ws ((arrOf st).map (·.2)), gens := s1.gens, drawn := s1.drawn, toks := s1.toks } :=
    I.call (ch := []) (Un.laid keep hz free) (I.hok.laid keep hz ⟨short, ((arrOf st).map (·.2)).toList, e', vals_of_strs y1, by rw [Array.toArray_toList]; exact he'⟩) (by rw [g1]; exact I.bare) (fun _ z => nomatch z)
  refine wpAny_pure ⟨_, rfl, .ref _, _, ?_, rfl, q ys _ y3 (py.nodup_iff.mpr c2) (fun y => by rw [py.mem_iff, c3 y]) free⟩
  obtain ⟨h1, gs, d1, tk1, os1⟩ := s1
  obtain rfl : os1 = s.os := o1
  exact J
end
end L2

/-! Fx: sorted(set(xs)), texts -/
namespace Fx
open PySem PySem.Spec PyProof.Rows L2
variable {X : Cx} {W : WX}
/-- each once -/
def dd : List Str → List Str
  | [] => []
  | x :: r => if x ∈ dd r then dd r else x :: dd r
theorem mem_dd {y : Str} : ∀ {xs : List Str}, y ∈ dd xs ↔ y ∈ xs
  | [] => Iff.rfl
  | x :: r => by
    have ih := mem_dd (y := y) (xs := r)
    unfold dd
    split
    · next h =>
      rw [ih, List.mem_cons]
      refine ⟨.inr, fun z => z.elim (fun e => ?_) id⟩
      rw [e]; exact mem_dd.mp h
    · rw [List.mem_cons, List.mem_cons, ih]
theorem nodup_dd : ∀ xs : List Str, (dd xs).Nodup
  | [] => List.nodup_nil
  | x :: r => by
    unfold dd
    split
    · exact nodup_dd r
    · next h => exact List.nodup_cons.mpr ⟨h, nodup_dd r⟩
theorem dd_len : ∀ xs : List Str, (dd xs).length ≤ xs.length
  | [] => Nat.le_refl _
  | x :: r => by
    have := dd_len r
    unfold dd
    split <;> simp only [List.length_cons] <;> omega
def setX (xs : List Str) : List Str := sortT (dd xs)
theorem mem_setX {y : Str} {xs : List Str} : y ∈ setX xs ↔ y ∈ xs := (sortT_perm _).mem_iff.trans mem_dd
theorem nodup_setX (xs : List Str) : (setX xs).Nodup := (sortT_perm _).nodup_iff.mpr (nodup_dd xs)
theorem setX_len (xs : List Str) : (setX xs).length ≤ xs.length := by
  unfold setX
  rw [(sortT_perm _).length_eq]
  exact dd_len xs
theorem eq_setX {xs ys : List Str} (hs : sortedS ys = true) (hn : ys.Nodup) (hm : ∀ y, y ∈ ys ↔ y ∈ xs) : ys = setX xs :=
  eq_sortT ((List.perm_ext_iff_of_nodup hn (nodup_dd xs)).mpr fun y => (hm y).trans mem_dd.symm) hs
/-- sorted(set(xs)), fewer than 64 texts -/
def sortSetTM (d : D) : M Cell := fun s => match lstOf s d with
  | some ds => match strsOf ds with
    | some xs => if xs.length < 64 then .ok (.lst ((setX xs).map D.str)) s else .bad
    | none => .bad
  | none => .bad
section
variable {e : Expr} {p pos : Pos}
theorem dn_sortSetT {q q2 : Pos} {fe : M D} (hm : X.mg "sorted" = none) (hm2 : X.mg "set" = none) (ha : DE X W e fe) (hc : X.calm = true := by rfl) (hg : Gl X "sorted" := by rfl) (hg2 : Gl X "set" := by rfl) (he : starEach [e] X.env = (false, eval e X.env) :: starEach [] X.env := by rfl) (hpl : (backTo q2 (starEach [] X.env)).any (·.1) = false := by rfl)
    (he2 : starEach [Expr.Call (.Name "set" q) [e] [] q2] X.env = (false, eval (Expr.Call (.Name "set" q) [e] [] q2) X.env) :: starEach [] X.env := by rfl) (hpl2 : (backTo pos (starEach [] X.env)).any (·.1) = false := by rfl) :
    DN X W (.Call (.Name "sorted" p) [.Call (.Name "set" q) [e] [] q2] [] pos) (bnd fe sortSetTM) := by
  obtain ⟨t, pe, r⟩ := ha
  refine ⟨_, pe_callB (cr_sortedSetT hc) hg hm (by decide +kernel) (pa_cons (pe_callTy (cr_setOfT hc) hg2 hm2 (by decide +kernel) (pa_cons pe pa_nil he) (by decide) (by decide) he hpl) pa_nil he2) (by decide) (by decide) he2 hpl2, fun w H σ s Q R z => ?_⟩
  refine r.bnd R z fun d s1 w1 H1 v l1 R1 r1 p1 => ?_
  unfold sortSetTM at p1
  split at p1
  · next es hes =>
    split at p1
    · next xs hn =>
      split at p1
      · next hl =>
        obtain ⟨a, us, rfl, h1, h2⟩ := R1.list r1 hes
        rw [strs_rep h2 hn] at h1
        refine ⟨a, xs, rfl, h1, Nat.lt_of_lt_of_le (show xs.length + 1 < 65 by omega) (by decide), fun q n hq hn2 => ?_⟩
        refine ⟨q, _, n, rfl, upd_same, by omega, fun ys q3 hs hnd hmem hq3 => ?_⟩
        have e : ys = setX xs := eq_setX hs hnd hmem
        rw [e]
        have R2 := R1.laid (o := SetTO X.w q (fun y => y ∈ xs) n) hq
        have p2 := p1.up (Le.laid (w := w1) (o := SetTO X.w q (fun y => y ∈ xs) n) hq)
        exact R2.giveL (repStrs _) p2 hq3
      · exact p1.elim
    · exact p1.elim
  · exact p1.elim
end
theorem strsOf_txs : ∀ cs : List (List Nat), strsOf (cs.map fun c => D.str (tx c)) = some (cs.map tx)
  | [] => rfl
  | c :: r => by rw [List.map_cons, strsOf, strsOf_txs r]; rfl
/-- sorted, each once, as texts of codes -/
def setC (cs : List (List Nat)) : List (List Nat) := (setX (cs.map tx)).map fun x => x.cps.toList
theorem setC_tx (cs : List (List Nat)) : setX (cs.map tx) = (setC cs).map tx := by
  unfold setC
  rw [List.map_map]
  conv => lhs; rw [← List.map_id (setX (cs.map tx))]
  exact List.map_congr_left fun x _ => (tx_of x).symm
theorem mem_setC {c : List Nat} {cs : List (List Nat)} : c ∈ setC cs ↔ c ∈ cs := by
  unfold setC
  rw [List.mem_map]
  constructor
  · rintro ⟨x, h, rfl⟩
    obtain ⟨d, hd, rfl⟩ := List.mem_map.mp (mem_setX.mp h)
    rw [tx_tl]; exact hd
  · exact fun h => ⟨tx c, mem_setX.mpr (List.mem_map_of_mem h), tx_tl c⟩
theorem setC_len (cs : List (List Nat)) : (setC cs).length ≤ cs.length := by
  unfold setC
  rw [List.length_map]
  exact Nat.le_trans (setX_len _) (Nat.le_of_eq (List.length_map _))
theorem x_sortSetT {cs : List (List Nat)} {s : S} (h : cs.length < 64) : sortSetTM (.lst (cs.map fun c => D.str (tx c))) s = .ok (.lst ((setC cs).map fun c => D.str (tx c))) s := by
  unfold sortSetTM lstOf
  dsimp only
  rw [strsOf_txs]
  dsimp only
  rw [if_pos (by rw [List.length_map]; exact h), setC_tx, List.map_map]
  rfl
end Fx

/-! Fx: dicts whose keys are trees of tuples -/
namespace Fx
open PySem PySem.Spec PyProof.Rows L2
variable {X : Cx} {W : WX}
open Classical in
noncomputable def dctNR (wd : World) (s : S) : D → Option (Nat × List (NestedKey × D))
  | .cell n => match s.vh[n]? with
    | some (.dctN wd' kvs) => if wd' = wd then some (n, kvs) else none
    | _ => none
  | _ => none
/-- a tree of tuples, at most eight deep -/
def nkey : D → Option NestedKey
  | .tup ds => match nkD (.tup ds) with
    | some q => if q.depth ≤ 8 then some q else none
    | none => none
  | _ => none
def valN (kvs : List (NestedKey × D)) (q : NestedKey) : Option D := (kvs.find? fun kv => decide (kv.1 = q)).map (·.2)
def putN (kvs : List (NestedKey × D)) (q : NestedKey) (d : D) : List (NestedKey × D) := if (valN kvs q).isSome = true then kvs.map (fun kv => if kv.1 = q then (kv.1, d) else kv) else kvs ++ [(q, d)]
def dropN (kvs : List (NestedKey × D)) (q : NestedKey) : List (NestedKey × D) := kvs.filter fun kv => decide (kv.1 ≠ q)
theorem nkey_of {e : D} {q : NestedKey} (h : nkey e = some q) : nkD e = some q ∧ q.depth ≤ 8 ∧ ∃ ds, e = .tup ds := by
  cases e with
  | tup ds =>
    unfold nkey at h
    dsimp only at h
    split at h
    · next q' e1 =>
      split at h
      · next hd => cases h; exact ⟨e1, hd, _, rfl⟩
      · cases h
    · cases h
  | _ => cases h
section
variable {K : PySem.W.Frag} {w : Wd} {H : Hp} {σ : L2.St} {s : S} {v : V} {d : D} {q : NestedKey}
theorem RepN.length : ∀ {xs : NX} {ds : List (NestedKey × D)}, RepN K w xs ds → xs.length = ds.length
  | _, _, .nil => rfl
  | _, _, .cons _ _ _ _ _ t => by rw [List.length_cons, List.length_cons, RepN.length t]
theorem RepN.val (q : NestedKey) : ∀ {xs : NX} {ds : List (NestedKey × D)}, RepN K w xs ds → (valN ds q = none → atKey xs q = none) ∧ ∀ d, valN ds q = some d → ∃ p v, atKey xs q = some p ∧ RelV v p.2 ∧ Rep K w v d
  | _, _, .nil => ⟨fun _ => rfl, fun d h => by cases h⟩
  | _, _, .cons (q := q') hk hq r ru h t => by
    by_cases e : q' = q
    · refine ⟨fun z => ?_, fun d z => ?_⟩
      · simp [valN, List.find?_cons, e] at z
      · simp [valN, List.find?_cons, e] at z
        subst z
        exact ⟨_, _, by simp only [atKey, List.find?_cons, e, decide_true, Option.map_some]; rfl, ru, h⟩
    · obtain ⟨i1, i2⟩ := RepN.val q t
      refine ⟨fun z => ?_, fun d z => ?_⟩
      · have := i1 (by simpa [valN, List.find?_cons, e] using z)
        simpa [atKey, List.find?_cons, e] using this
      · obtain ⟨p, u, h1, h2⟩ := i2 d (by simpa [valN, List.find?_cons, e] using z)
        exact ⟨p, u, by simpa [atKey, List.find?_cons, e] using h1, h2⟩
theorem RepN.isome {xs : NX} {ds : List (NestedKey × D)} (h : RepN K w xs ds) (q : NestedKey) : (atKey xs q).isSome = (valN ds q).isSome := by
  cases e : valN ds q with
  | none => rw [(h.val q).1 e]; rfl
  | some d => obtain ⟨p, _, e2, _⟩ := (h.val q).2 d e; rw [e2]; rfl
theorem RepN.append : ∀ {xs ys : NX} {ds es : List (NestedKey × D)}, RepN K w xs ds → RepN K w ys es → RepN K w (xs ++ ys) (ds ++ es)
  | _, _, _, _, .nil, s => s
  | _, _, _, _, .cons hk hq r ru h t, s => .cons hk hq r ru h (RepN.append t s)
theorem RepN.map {u : Value} (rv : RelV v u) (rd : Rep K w v d) : ∀ {xs : NX} {ds : List (NestedKey × D)}, RepN K w xs ds → RepN K w (xs.map (putAt q u)) (ds.map fun kv => if kv.1 = q then (kv.1, d) else kv)
  | _, _, .nil => .nil
  | _, _, .cons (q := q') hk hq r ru h t => by
    rw [List.map_cons, List.map_cons]
    by_cases e : q' = q
    · unfold putAt
      rw [if_pos e, if_pos e]
      exact .cons hk hq r rv rd (RepN.map rv rd t)
    · rw [if_neg e]
      unfold putAt
      rw [if_neg e]
      exact .cons hk hq r ru h (RepN.map rv rd t)
theorem RepN.put {q : NestedKey} {xs : NX} {ds : List (NestedKey × D)} (t : RepN K w xs ds) {b : Addr} {u : Value} {kd : D} (hk : nkD kd = some q) (hq : q.depth ≤ 8) (r : Rep K w (.ref b) kd) (rv : RelV v u) (rd : Rep K w v d) : RepN K w (storedH xs q b u) (putN ds q d) := by
  unfold storedH putN
  rw [t.isome q]
  split
  · exact RepN.map rv rd t
  · exact RepN.append t (.cons hk hq r rv rd .nil)
theorem RepN.drop (q : NestedKey) : ∀ {xs : NX} {ds : List (NestedKey × D)}, RepN K w xs ds → RepN K w (withoutH xs q) (dropN ds q)
  | _, _, .nil => .nil
  | _, _, .cons (q := q') hk hq r ru h t => by
    have ih := RepN.drop q t
    unfold withoutH dropN at ih ⊢
    by_cases e : q' = q
    · rw [List.filter_cons_of_neg (by simp [e]), List.filter_cons_of_neg (by simp [e])]; exact ih
    · rw [List.filter_cons_of_pos (by simp [e]), List.filter_cons_of_pos (by simp [e])]; exact .cons hk hq r ru h ih
theorem RS.dN {n : Nat} {wd : World} {kvs : List (NestedKey × D)} (R : RS K w H σ s) (r : Rep K w v d) (h : dctNR wd s d = some (n, kvs)) : d = .cell n ∧ ∃ a xs, v = .ref a ∧ w.ρ[n]? = some a ∧ s.vh[n]? = some (.dctN wd kvs) ∧ H a = some (dNO wd a xs) ∧ RepN K w xs kvs := by
  cases r with
  | cell h1 =>
    obtain ⟨c, e, hc⟩ := R.cellOf h1
    unfold dctNR at h
    simp only [e] at h
    cases c with
    | dctN wd' ds =>
      dsimp only at h
      split at h
      · next ew =>
        cases h
        subst ew
        obtain ⟨xs, h2, h3⟩ := hc
        exact ⟨rfl, _, xs, rfl, h1, e, h2, h3⟩
      · cases h
    | _ => simp at h
  | _ => simp [dctNR] at h
end
/-! ### trees of tuples, in the heap -/
section
variable {pins : List (Addr × Obj)} {σ : L2.St} {H : Hp} {s : Shared} {w : Wd}
mutual
theorem nested_of (sub : ∀ a o, w.F a = some o → H a = some o) (I : Inv X pins σ H s) : ∀ {v : V} {d : D} {q : NestedKey} {u : Value}, Rep X.K w v d → nkD d = some q → RelV v u → NestedIs s.heap q u
  | _, _, _, _, .non, h, r => by cases h; cases r; exact .none
  | _, _, _, _, .bl b, h, r => by cases h; cases r; exact .bool rfl
  | _, _, _, _, .int i, h, r => by cases h; obtain ⟨t, rfl⟩ := r; exact .int i t
  | _, _, _, _, .str x, h, r => by cases h; obtain ⟨t, rfl⟩ := r; exact .text x t
  | _, _, _, _, .ref a, h, _ => by cases h
  | _, _, _, _, .pr _ _ _, h, _ => by cases h
  | _, _, _, _, .emp _, h, _ => by cases h
  | _, _, _, _, .tup (ds := ds) h1 t, h, r => by
    obtain ⟨its, rv, ⟨o, e1, e2, n, e3⟩, _⟩ := I.tuple (sqT_up sub h1.sq)
    unfold nkD at h
    cases e : nkL ds with
    | none => rw [e] at h; cases h
    | some ks =>
      rw [e] at h
      cases h
      cases r
      exact .tup e1 e2 e3 (nested_all sub I t e rv)
  | _, _, _, _, .lst _ _, h, _ => by cases h
  | _, _, _, _, .cell _, h, _ => by cases h
theorem nested_all (sub : ∀ a o, w.F a = some o → H a = some o) (I : Inv X pins σ H s) : ∀ {vs : List V} {ds : List D} {ks : List NestedKey} {us : List Value}, RepL X.K w vs ds → nkL ds = some ks → Vals vs us → NestedAll s.heap ks us
  | _, _, _, _, .nil, h, r => by cases h; cases r; exact .nil
  | _, _, _, _, .cons (d := d) (ds := ds) h1 t, h, r => by
    unfold nkL at h
    cases e1 : nkD d with
    | none => rw [e1] at h; cases h
    | some k =>
      cases e2 : nkL ds with
      | none => rw [e1, e2] at h; cases h
      | some ks =>
        rw [e1, e2] at h
        cases h
        cases r with
        | cons ra rr => exact .cons (nested_of sub I h1 e1 ra) (nested_all sub I t e2 rr)
end
theorem keyAt_of {z : S} {b : Addr} {kd : D} {q : NestedKey} (R : RS X.K w H σ z) (r : Rep X.K w (.ref b) kd) (hk : nkD kd = some q) (hq : q.depth ≤ 8) : KeyAt X H q b := ⟨hq, fun _ _ _ I => nested_of R.sub I r hk rfl⟩
theorem RepN.keysAt {z : S} (R : RS X.K w H σ z) : ∀ {xs : NX} {ds : List (NestedKey × D)}, RepN X.K w xs ds → ∀ x ∈ xs, KeyAt X H x.1 x.2.1
  | _, _, .nil => fun x h => by cases h
  | _, _, .cons hk hq r ru h t => fun x hx => by
    rcases List.mem_cons.mp hx with e | e
    · rw [e]; exact keyAt_of R r hk hq
    · exact RepN.keysAt R t x e
theorem RS.atN {z : S} {n : Nat} {kvs : List (NestedKey × D)} {v u : V} {d e : D} {q : NestedKey} (R : RS X.K w H σ z) (r : Rep X.K w v d) (re : Rep X.K w u e) (h : dctNR X.w z d = some (n, kvs)) (hk : nkey e = some q) :
    d = .cell n ∧ ∃ a b xs, AtN X H v u a b q xs ∧ w.ρ[n]? = some a ∧ z.vh[n]? = some (.dctN X.w kvs) ∧ RepN X.K w xs kvs ∧ Rep X.K w (.ref b) e ∧ nkD e = some q ∧ q.depth ≤ 8 := by
  obtain ⟨hd, a, xs, rfl, h1, h2, h3, h4⟩ := R.dN r h
  obtain ⟨k1, k2, ds, rfl⟩ := nkey_of hk
  obtain ⟨b, us, rfl, _, _⟩ := R.tuple re (ds := ds) rfl
  exact ⟨hd, a, b, xs, ⟨rfl, rfl, h3, keyAt_of R re k1 k2, h4.keysAt R⟩, h1, h2, h4, re, k1, k2⟩
end
/-! ### the steps -/
noncomputable def nInM (wd : World) (t : Bool) (e d : D) : M D := fun s => match dctNR wd s d, nkey e with
  | some (_, kvs), some q => .ok (.bl ((valN kvs q).isSome == t)) s
  | _, _ => .bad
noncomputable def nGetM (wd : World) (d e : D) : M D := fun s => match dctNR wd s d, nkey e with
  | some (_, kvs), some q => match valN kvs q with
    | some v => .ok v s
    | none => .bad
  | _, _ => .bad
noncomputable def nPutM (wd : World) (v d e : D) : M Out := fun s => match dctNR wd s d, nkey e with
  | some (n, kvs), some q => if kvs.length < sizeLine then .ok .nx ⟨s.loc, s.vh.set n (.dctN wd (putN kvs q v))⟩ else .bad
  | _, _ => .bad
noncomputable def nPutS (wd : World) (fo fi fv : M D) : M Out := bnd fv fun v => bnd fo fun d => bnd fi fun e => nPutM wd v d e
noncomputable def nPopM (wd : World) (d e : D) : M D := fun s => match dctNR wd s d, nkey e with
  | some (n, kvs), some q => match valN kvs q with
    | some v => .ok v ⟨s.loc, s.vh.set n (.dctN wd (dropN kvs q))⟩
    | none => .bad
  | _, _ => .bad
noncomputable def nPopE (wd : World) (fo fi : M D) : M D := bnd fo fun d s => if (dctNR wd s d).isSome = true then bnd fi (fun e => nPopM wd d e) s else .bad
section
variable {o i value : Expr} {fo fi fv : M D} {pos pos' apos cpos : Pos}
theorem dn_dictN : DN X W (.Dict [] [] pos) (ret (.dctN X.w [])) := by
  refine ⟨_, pe_dnewN, fun w H σ s Q R z => fun q hq => ?_⟩
  have f := R.fresh hq
  exact z w _ _ (Le.laid hq) (R.laid hq) ⟨q, rfl, f.1, f.2, ⟨[], upd_same, .nil⟩, hq⟩
theorem nin_fol {t u : TE} {b : Bool} (r : Fol X.K W (pD X.K) t fi) (h : Fol X.K W (pD X.K) u fo) : Fol X.K W (pD X.K) (tNIn X b t u) (bin (nInM X.w b) fi fo) := fun w H σ s Q R z => by
  refine r.bnd R z fun e s1 w1 H1 v1 l1 R1 r1 p1 => ?_
  refine h.bnd R1 p1 fun d s2 w2 H2 v2 l2 R2 r2 p2 => ?_
  unfold nInM at p2
  split at p2
  · next n kvs q hd hk =>
    obtain ⟨_, a, b, xs, A, h1, h2, h3, _⟩ := R2.atN r2 (Rep.up l2 r1) hd hk
    refine ⟨a, b, q, xs, A, ?_⟩
    rw [h3.isome]
    exact Post.here p2 R2 (Rep.bl _)
  · exact p2.elim
theorem de_nin (hu : X.A.units + 64 < cLine) (hi : DE X W i fi) (ho : DE X W o fo) (hm : behindInMarks .In o = false := by rfl) : DE X W (.Compare i [.In] [o] pos) (bin (nInM X.w true) fi fo) := by
  obtain ⟨t, p, r⟩ := hi
  obtain ⟨u, q, h⟩ := ho
  exact ⟨_, pe_cmp (pc_nin (by omega) p q) hm, nin_fol r h⟩
theorem de_nnin (hu : X.A.units + 64 < cLine) (hi : DE X W i fi) (ho : DE X W o fo) (hm : behindInMarks .NotIn o = false := by rfl) : DE X W (.Compare i [.NotIn] [o] pos) (bin (nInM X.w false) fi fo) := by
  obtain ⟨t, p, r⟩ := hi
  obtain ⟨u, q, h⟩ := ho
  exact ⟨_, pe_cmp (pc_nnin (by omega) p q) hm, nin_fol r h⟩
theorem dt_nin (hu : X.A.units + 64 < cLine) (hi : DE X W i fi) (ho : DE X W o fo) (hm : behindInMarks .In o = false := by rfl) : DT X W (.Compare i [.In] [o] pos) (tst (bin (nInM X.w true) fi fo)) := by
  obtain ⟨t, p, r⟩ := hi
  obtain ⟨u, q, h⟩ := ho
  exact ⟨_, pt_cmp (pc_nin (by omega) p q) hm, tst_fol (nin_fol r h)⟩
theorem dt_nnin (hu : X.A.units + 64 < cLine) (hi : DE X W i fi) (ho : DE X W o fo) (hm : behindInMarks .NotIn o = false := by rfl) : DT X W (.Compare i [.NotIn] [o] pos) (tst (bin (nInM X.w false) fi fo)) := by
  obtain ⟨t, p, r⟩ := hi
  obtain ⟨u, q, h⟩ := ho
  exact ⟨_, pt_cmp (pc_nnin (by omega) p q) hm, tst_fol (nin_fol r h)⟩
theorem de_nget (hu : X.A.units + 64 < cLine) (ho : DE X W o fo) (hi : DE X W i fi) (hs : NoSl i := by exact fun _ _ => rfl) : DE X W (.Subscript o i pos) (bin (nGetM X.w) fo fi) := by
  obtain ⟨t, p, r⟩ := ho
  obtain ⟨u, q, h⟩ := hi
  refine ⟨_, pe_nget (by omega) p q hs, fun w H σ s Q R z => ?_⟩
  refine r.bnd R z fun d s1 w1 H1 v1 l1 R1 r1 p1 => ?_
  refine h.bnd R1 p1 fun e s2 w2 H2 v2 l2 R2 r2 p2 => ?_
  unfold nGetM at p2
  split at p2
  · next n kvs k hd hk =>
    obtain ⟨_, a, b, xs, A, h1, h2, h3, _⟩ := R2.atN (Rep.up l2 r1) r2 hd hk
    split at p2
    · next v hv =>
      obtain ⟨p, y, h4, h5, h6⟩ := (h3.val k).2 v hv
      exact ⟨a, b, k, xs, p, y, A, h4, h5, Post.here p2 R2 h6⟩
    · exact p2.elim
  · exact p2.elim
theorem ds_nput (hu : X.A.units + 64 < cLine) (ho : DE X W o fo) (hi : DE X W i fi) (hv : DE X W value fv) (hs : swapsWith value (some (.Subscript o i pos')) pos.line X.env = pure false := by rfl) : DS X W (.Assign [.Subscript o i pos'] value pos) (nPutS X.w fo fi fv) := by
  obtain ⟨t, p, r⟩ := ho
  obtain ⟨u, q, h⟩ := hi
  obtain ⟨y, p', k⟩ := hv
  refine ⟨_, ps_nput (by omega) p q p' hs, fun w H σ s D R z => ?_⟩
  refine k.bndS R z fun v s1 w1 H1 v1 l1 R1 r1 p1 => ?_
  refine r.bndS R1 p1 fun d s2 w2 H2 v2 l2 R2 r2 p2 => ?_
  refine h.bndS R2 p2 fun e s3 w3 H3 v3 l3 R3 r3 p3 => ?_
  unfold nPutM at p3
  split at p3
  · next n kvs q hd hk =>
    obtain ⟨_, a, b, xs, A, h1, h2, h3, h4, h5, h6⟩ := R3.atN (Rep.up l3 r2) r3 hd hk
    split at p3
    · next hl =>
      refine ⟨a, b, q, xs, A, by rw [h3.length]; exact hl, fun u ru => ?_⟩
      exact p3 w3 _ σ (Le.write (List.mem_of_getElem? h1)) (R3.setCell h1 ⟨_, upd_same, h3.put h5 h6 h4 ru ((r1.up l2).up l3)⟩)
    · exact p3.elim
  · exact p3.elim
theorem de_npop (hu : X.A.units + 64 < cLine) (ho : DE X W o fo) (hi : DE X W i fi)
    (hbase : attributeBase o "pop" X.env (eval o X.env) = eval o X.env := by rfl)
    (hfew : ((backTo cpos (starEach [i] X.env)).all (fun x => !x.1) && (backToKw cpos (keywordEach [] X.env)).all (fun x => x.1.isSome)
      && decide (([i] : List Expr).length + ([] : List Keyword).length + (if ([] : List Keyword).isEmpty then 0 else 1) < 30)) = true := by rfl)
    (hline : (apos.endLine == cpos.line) = true := by rfl) (htrees : backTo cpos (starEach [i] X.env) = [(false, eval i X.env)] := by rfl) :
    DE X W (.Call (.Attribute o "pop" apos) [i] [] cpos) (nPopE X.w fo fi) := by
  obtain ⟨t, p, r⟩ := ho
  obtain ⟨u, q, h⟩ := hi
  refine ⟨_, pe_npop (by omega) p q ⟨hbase, hfew, hline, htrees⟩, fun w H σ s Q R z => ?_⟩
  refine r.bnd R z fun d s1 w1 H1 v1 l1 R1 r1 p1 => ?_
  split at p1
  · next hs =>
    obtain ⟨⟨n, kvs⟩, hn⟩ := Option.isSome_iff_exists.mp hs
    obtain ⟨_, a, xs, e1, e2, e3, e4, e5⟩ := R1.dN r1 hn
    refine ⟨⟨a, xs, e1, e4, e5.keysAt R1⟩, ?_⟩
    refine h.bnd R1 p1 fun e s2 w2 H2 v2 l2 R2 r2 p2 => ?_
    unfold nPopM at p2
    split at p2
    · next n kvs k hd hk =>
      obtain ⟨_, a, b, xs, A, h1, h2, h3, _⟩ := R2.atN (Rep.up l2 r1) r2 hd hk
      split at p2
      · next v hv =>
        obtain ⟨p, y, h4, h5, h6⟩ := (h3.val k).2 v hv
        exact ⟨a, b, k, xs, p, y, A, h4, h5, p2 w2 _ y (Le.write (List.mem_of_getElem? h1)) (R2.setCell h1 ⟨_, upd_same, h3.drop k⟩) h6⟩
      · exact p2.elim
    · exact p2.elim
  · exact p1.elim
end
/-! ### equations -/
theorem dctNR_at {wd : World} {s : S} {n : Nat} {kvs : List (NestedKey × D)} (h : s.vh[n]? = some (.dctN wd kvs)) : dctNR wd s (.cell n) = some (n, kvs) := by
  unfold dctNR
  dsimp only
  rw [h]
  exact if_pos rfl
theorem x_nin {wd : World} {t : Bool} {e : D} {n : Nat} {kvs : List (NestedKey × D)} {q : NestedKey} {s : S} (h : s.vh[n]? = some (.dctN wd kvs)) (hk : nkey e = some q) : nInM wd t e (.cell n) s = .ok (.bl ((valN kvs q).isSome == t)) s := by
  unfold nInM
  rw [dctNR_at h, hk]
theorem x_nget {wd : World} {e v : D} {n : Nat} {kvs : List (NestedKey × D)} {q : NestedKey} {s : S} (h : s.vh[n]? = some (.dctN wd kvs)) (hk : nkey e = some q) (hv : valN kvs q = some v) : nGetM wd (.cell n) e s = .ok v s := by
  unfold nGetM
  rw [dctNR_at h, hk]
  dsimp only
  rw [hv]
theorem x_nputM {wd : World} {e v : D} {n : Nat} {kvs : List (NestedKey × D)} {q : NestedKey} {s : S} (h : s.vh[n]? = some (.dctN wd kvs)) (hk : nkey e = some q) (hl : kvs.length < 16777216) : nPutM wd v (.cell n) e s = .ok .nx ⟨s.loc, s.vh.set n (.dctN wd (putN kvs q v))⟩ := by
  unfold nPutM
  rw [dctNR_at h, hk]
  dsimp only
  rw [if_pos (by rw [sizeLine_eq]; exact hl)]
theorem x_nput {wd : World} {fo fi fv : M D} {s : S} : nPutS wd fo fi fv s = (fv s).then' fun v => bnd fo fun d => bnd fi fun e => nPutM wd v d e := nr rfl
theorem x_npopM {wd : World} {e v : D} {n : Nat} {kvs : List (NestedKey × D)} {q : NestedKey} {s : S} (h : s.vh[n]? = some (.dctN wd kvs)) (hk : nkey e = some q) (hv : valN kvs q = some v) : nPopM wd (.cell n) e s = .ok v ⟨s.loc, s.vh.set n (.dctN wd (dropN kvs q))⟩ := by
  unfold nPopM
  rw [dctNR_at h, hk]
  dsimp only
  rw [hv]
theorem x_npop {wd : World} {fo fi : M D} {s : S} : nPopE wd fo fi s = (fo s).then' fun d s => if (dctNR wd s d).isSome = true then bnd fi (fun e => nPopM wd d e) s else .bad := nr rfl
/-- the end, for a law whose reading hangs on the world -/
theorem law_endW {l : PySem.W.OpenLaw} {q : Program} {loose : List Str} {XP : (Str → Option Value) → Heap → Prop} {YP : World → Heap → Prop} {d : DefRec} {K : Params → PySem.W.Frag} {x : Str} {k : Nat} {F : World → Pf} (hn : l.most = some 63) (hdf : d.params.defaults = []) (hd : d.name = "law") (hr : Room k callerA)
    (hY : ∀ (w : World) (h : Heap), YP w h → (K w.params).In h)
    (W : ∀ (w : World) (mg : Str → Option Value) (h : Heap), (K w.params).In h → h.Ns mainGlobals mg → (∃ (fa : Addr) (fd : FuncData), mg "law" = some (.ref fa) ∧ (∀ (s : Shared) (u : Value), BindsTo s fd ⟨[u], []⟩ [(x, u)]) ∧
      ∀ base : Heap, (K w.params).In base → base.Ns mainGlobals mg → FnOk l.prog w (K w.params) mg base CX0 k fa fd [x] (SpP (K w.params) 1 (F w))))
    (hF : ∀ (w : World) (ns : List Int), ns.length ≤ 63 → (∀ z ∈ ns, Builtin.Int.intBits z ≤ 1048576) → F w [.lst (ns.map D.int)] [] = some (.bl true)) :
    PySem.W.WalkO q loose XP YP l.row.toRowW d [] (fun f vs => PySem.call f vs) := by
  refine L2.walk_ofB (n := 63) (k := k) (x := x) (CX := fun _ => CX0) (sp := fun w => SpP (K w.params) 1 (F w)) hn (by decide) hdf hr hY (fun w mg fa h X G hmg => ?_) (fun w H a ns hl hb _ hS => ?_) fun _ _ _ _ _ z => z
  · obtain ⟨fa', fd, e, b, G'⟩ := W w mg h X G
    rw [hd, e] at hmg
    cases hmg
    exact ⟨fd, b, G'⟩
  · refine ⟨rfl, ⟨[], H⟩, [], ⟨[], []⟩, [.lst (ns.map D.int)], .bl true, ⟨fun _ _ h => h, rfl, fun i d h => by simp at h, rfl, .nil, fun _ h => by simp at h, fun n a c e => by simp at e⟩, .cons (.lst hS (ints_rep ns)) .nil, hF w ns hl hb, fun w' H' v _ _ r => ?_⟩
    cases r
    rfl
end Fx

/-! Fx: extend, range with a step, chained comparisons -/
namespace PySem
open Sem (wp)
theorem list_extend_any (l b : Addr) (its its2 : Array Value) (n n2 : Nat) {T : String} (hT : T = "list" ∨ T = "tuple") (hlong : ¬ (!its.isEmpty && Builtin.List.listTooLong (its.size + its2.size)) = true) (hs : its.size ≤ sizeLine) (hs2 : its.size + its2.size ≤ sizeLine) :
    Meets (Builtin.«list.extend» ⟨[.ref l, .ref b], []⟩) (fun _ R s => s.heap.get? l = some { cls := .type "list", data := .seq its n } ∧ (∃ o, s.heap.get? b = some o ∧ o.cls = .type T ∧ o.data = .seq its2 n2) ∧ R (.ok (.ret .none)) { s with heap := s.heap.update l (Obj.mapSeq (· ++ its2)), toks := s.toks }) :=
  .of_wp fun prog w A R s h => by
    obtain ⟨hl, ⟨o, ho, hc, hd⟩, h⟩ := h
    show wpAny _ A.in1 (Builtin.List.listExtendWith (.ref l) (.ref b) .none) _ _ s
    unfold Builtin.List.listExtendWith
    refine wpAny_bind (wpAny_typeOf ⟨o, ho, hc⟩ ?_)
    have h1 : (Builtin.List.listSameRef (.ref l) (.ref b) || Value.type T == Value.type "list" || Value.type T == Value.type "tuple") = true := by
      rcases hT with rfl | rfl <;> simp
    simp only [h1, if_true]
    refine wpAny_bind ?_
    unfold Builtin.List.listItems
    refine wpAny_bind (wpAny_seqItems ho hd (wpAny_pure ?_))
    refine wpAny_bind ?_
    refine wpAny_bind (wpAny_seqItems hl rfl (wpAny_pure ?_))
    rw [if_neg hlong]
    show wpAny _ A.in1 (updateSeq l (· ++ its2) >>= fun _ => ret Value.none) _ _ s
    refine wpAny_bind (wpAny_updateSeq hl rfl (hz := hs) (_hz' := by rw [Array.size_append]; omega) ?_)
    exact wpAny_pure ⟨_, rfl, h⟩
end PySem
namespace L2
open PySem PySem.Spec PyProof.Rows
def rExtS (K : PySem.W.Frag) : V → List V → Hp → VK → Prop := fun x vs H Q => ∃ l b xs zs, x = .ref l ∧ vs = [.ref b] ∧ H l = some (.lst xs) ∧ (SqL K H b zs ∨ SqT K H b zs) ∧ xs.length + zs.length ≤ sizeLine ∧ Q .non (upd H l (.lst (xs ++ zs)))
theorem mt_extS {X : Cx} : MtM X "list.extend" (rExtS X.K) := by
  intro pins s σ H x vs v us Q I rx rv h
  obtain ⟨l, b, xs, zs, rfl, rfl, hH, hB, hz, q⟩ := h
  cases rx
  obtain ⟨u, rfl, ru⟩ := rv.one
  cases ru
  obtain ⟨z, its, n, r, hl, e⟩ := I.lstM hH
  have key : ∃ (T : String) (its2 : List Value) (n2 : Nat) (o : Obj), (T = "list" ∨ T = "tuple") ∧ Vals zs its2 ∧ s.heap.get? b = some o ∧ o.cls = .type T ∧ o.data = .seq its2.toArray n2 := by
    rcases hB with hB | hB
    · obtain ⟨its2, r2, ⟨o, n2, e2, c2, _, d2⟩, _⟩ := I.list hB
      exact ⟨"list", its2, n2, o, .inl rfl, r2, e2, c2, d2⟩
    · obtain ⟨its2, r2, ⟨o, e2, c2, n2, d2⟩, _⟩ := I.tuple hB
      exact ⟨"tuple", its2, n2, o, .inr rfl, r2, e2, c2, d2⟩
  obtain ⟨T, its2, n2, o, hT, r2, e2, c2, d2⟩ := key
  have hl2 := r2.length
  have hsz : its.toArray.size + its2.toArray.size ≤ sizeLine := by rw [List.size_toArray, List.size_toArray]; omega
  have hlong : ¬ (!its.toArray.isEmpty && Builtin.List.listTooLong (its.toArray.size + its2.toArray.size)) = true := by
    rw [notLongL hsz, Bool.and_false]
    exact Bool.false_ne_true
  refine call_meets F.slot_list_extend ⟨_, e, rfl⟩ F.entry_list_extend (F.args_list_extend_2 _ _)
    (list_extend_any l b its.toArray its2.toArray n n2 hT hlong (by rw [List.size_toArray]; omega) hsz) ⟨e, ⟨o, e2, c2, d2⟩, ?_⟩
  refine ⟨.non, _, I.lset (its' := its ++ its2) hH e (by simp) (r.append r2) ?_, rfl, q⟩
  rw [List.length_append]
  omega
end L2
namespace Fx
open PySem PySem.Spec PyProof.Rows L2
variable {X : Cx} {W : WX}
def extM (d : D) : List D → M D
  | [e] => fun s => match seqOf s e with
    | some es => wrM d (fun ds s => if ds.length + es.length ≤ sizeLine then .ok (ds ++ es, .non) s else .bad) s
    | none => .bad
  | _ => fail
theorem rm_ext : RMt X (rExtS X.K) extM := by
  intro W w H σ s v vs d ds Q R r rs p
  unfold extM at p
  split at p
  · next e =>
    obtain ⟨u, rfl, ru⟩ := one_of rs
    cases he : seqOf s e with
    | none => rw [he] at p; exact p.elim
    | some es =>
      rw [he] at p
      dsimp only at p
      have sq : ∃ b zs, u = .ref b ∧ (SqL X.K H b zs ∨ SqT X.K H b zs) ∧ RepL X.K w zs es := by
        cases ru with
        | tup h1 t => cases he; exact ⟨_, _, rfl, .inr (sqT_up R.sub h1.sq), t⟩
        | lst h1 t =>
          obtain ⟨a, vs, e1, h2, h3⟩ := R.list (.lst h1 t) (ds := es) he
          exact ⟨a, vs, e1, .inl h2, h3⟩
        | cell h1 =>
          obtain ⟨a, vs, e1, h2, h3⟩ := R.list (.cell h1) (ds := es) he
          exact ⟨a, vs, e1, .inl h2, h3⟩
        | _ => simp [seqOf, lstOf] at he
      obtain ⟨b, zs, rfl, h5, h6⟩ := sq
      obtain ⟨a, us, ds, es', y, s', rfl, h1, h2, h3, h4⟩ := R.wr r p
      split at h3
      · next k =>
        cases h3
        exact ⟨a, b, us, zs, rfl, rfl, h1, h5, by rw [RepL.length h2, RepL.length h6]; exact k, h4 rfl _ _ (RepL.append h2 h6) Rep.non⟩
      · cases h3
  · exact p.elim
theorem de_extend {o e : Expr} {f : M D} {fs : M (List D)} {ap pos : Pos} (ho : DE X W o f) (ha : DA X W [e] fs) (hbase : attributeBase o "extend" X.env (eval o X.env) = eval o X.env := by rfl)
    (hfew : ((backTo pos (starEach [e] X.env)).all (fun x => !x.1) && (backToKw pos (keywordEach [] X.env)).all (fun x => x.1.isSome)
      && decide (([e] : List Expr).length + ([] : List Keyword).length + (if ([] : List Keyword).isEmpty then 0 else 1) < 30)) = true := by rfl)
    (hline : (ap.endLine == pos.line) = true := by rfl) (hs : starEach [e] X.env = (false, eval e X.env) :: starEach [] X.env := by rfl) (hplain : (backTo pos (starEach [] X.env)).any (·.1) = false := by rfl) :
    DE X W (.Call (.Attribute o "extend" ap) [e] [] pos) (methM "list" f fs extM) :=
  de_meth rm_ext PySem.F.plainAttrs_list PySem.F.slot_list_extend PySem.F.type_list_extend mt_extS ho ha hbase hfew hline hs hplain
def extR (n : Nat) (es : List D) (o : Option Cell) (s : S) : Res D := match o with
  | some (.lst ds) => if ds.length + es.length ≤ sizeLine then .ok .non ⟨s.loc, s.vh.set n (.lst (ds ++ es))⟩ else .bad
  | _ => .bad
theorem x_ext {n : Nat} {e : D} {es : List D} {s : S} (h : seqOf s e = some es) : extM (.cell n) [e] s = extR n es s.vh[n]? s := by
  unfold extM wrM extR
  dsimp only
  rw [h]
  dsimp only
  cases s.vh[n]? with
  | none => rfl
  | some c =>
    cases c with
    | lst ds =>
      dsimp only
      by_cases h : ds.length + es.length ≤ sizeLine
      · rw [if_pos h, if_pos h]
      · rw [if_neg h, if_neg h]
    | _ => rfl
theorem x_extT {n : Nat} {es : List D} {s : S} : extM (.cell n) [.tup es] s = extR n es s.vh[n]? s := x_ext rfl
theorem x_extL {n : Nat} {es : List D} {s : S} : extM (.cell n) [.lst es] s = extR n es s.vh[n]? s := x_ext rfl
theorem x_extC {n m : Nat} {es : List D} {s : S} (h : s.vh[m]? = some (.lst es)) : extM (.cell n) [.cell m] s = extR n es s.vh[n]? s := x_ext (by unfold seqOf lstOf; dsimp only; rw [h])
theorem x_extR {n : Nat} {es ds : List D} {s : S} (h : ds.length + es.length < 16777216) : extR n es (some (.lst ds)) s = .ok .non ⟨s.loc, s.vh.set n (.lst (ds ++ es))⟩ := by
  unfold extR
  exact if_pos (by rw [sizeLine_eq]; omega)
/-! range(a, b, -1) -/
def dnD (lo : Int) (n : Nat) : List D := (List.range n).map fun (k : Nat) => D.int (lo + (k : Int) * (-1))
theorem dnD_len {lo : Int} {n : Nat} : (dnD lo n).length = n := by unfold dnD; rw [List.length_map, List.length_range]
theorem dnD_get {lo : Int} {n i : Nat} (h : i < n) : (dnD lo n)[i]? = some (.int (lo + (i : Int) * (-1))) := by
  unfold dnD
  rw [List.getElem?_map, List.getElem?_range h]; rfl
def ran3I : List D → M Wk
  | [.int lo, .int n, .int (-1)] => fun s => if (okB lo && okB n) = true then .ok ⟨dnD lo (lo - n).toNat, fun _ => True⟩ s else .bad
  | _ => fun _ => .bad
theorem pI_dn {K : PySem.W.Frag} {w0 : Wd} {lo : Int} {n : Nat} : wkI K w0 (Itc lo (-1) n) ⟨dnD lo n, fun _ => True⟩ := by
  intro w H σ s l R _ i
  refine ⟨fun hi => by rw [dnD_len] at hi; exact hi, fun hi => by rw [dnD_len] at hi; exact hi, fun v H' hy d' hd => ?_⟩
  obtain ⟨rfl, rfl⟩ := hy
  have hi : i < n := by
    have := (List.getElem?_eq_some_iff.mp hd).1
    rw [dnD_len] at this; exact this
  have hd : (dnD lo n)[i]? = some d' := hd
  rw [dnD_get hi] at hd; cases hd
  exact ⟨w, Le.refl _ _, R, .int _⟩
theorem di_range3 {tg a b c : Expr} {f : M (List D)} {p pos : Pos} (hm : X.mg "range" = none) (h : DA X W [a, b, c] f) (hg : Gl X "range" := by rfl) (hs : starEach [a, b, c] X.env = (false, eval a X.env) :: starEach [b, c] X.env := by rfl) (hpl : (backTo pos (starEach [b, c] X.env)).any (·.1) = false := by rfl) :
    DI X W tg (.Call (.Name "range" p) [a, b, c] [] pos) (bnd f ran3I) := by
  obtain ⟨t, q, r⟩ := h
  refine ⟨_, pi_range3 hg hm q hs hpl, fun w H σ s R0 R z => ?_⟩
  refine r.bnd R z fun ds s1 w1 H1 vs l1 R1 r1 p1 => ?_
  unfold ran3I at p1
  split at p1
  · next lo n =>
    cases r1 with
    | cons h1 t1 =>
      cases t1 with
      | cons h2 t2 =>
        cases t2 with
        | cons h3 t3 =>
          cases t3
          cases h1
          cases h2
          cases h3
          split at p1
          · next k =>
            rw [Bool.and_eq_true] at k
            exact ⟨lo, n, -1, (lo - n).toNat, rfl, RgC.neg (okB_ok k.1).1 (okB_ok k.1).2 (okB_ok k.2).1 (okB_ok k.2).2, p1 w1 H1 _ (Le.refl _ _) R1 pI_dn⟩
          · exact p1.elim
  · exact p1.elim
theorem x_ran3 {lo n : Int} {s : S} (h : okB lo = true) (h2 : okB n = true) : ran3I [.int lo, .int n, .int (-1)] s = .ok ⟨dnD lo (lo - n).toNat, fun _ => True⟩ s := by
  show (if (okB lo && okB n) = true then _ else _) = _
  rw [if_pos (by rw [h, h2]; rfl)]
/-! a op1 b op2 c -/
def chnM (g g' : D → D → M D) (fa fb fc : M D) : M D := bnd fa fun d => bnd fb fun e => bnd (bnd (g d e) asB) fun k => if k = true then bnd fc fun x => g' e x else ret (.bl false)
theorem chn_fol {r r' : R2} {g g' : D → D → M D} {ta tb tc : TE} {fa fb fc : M D} (hr : ROp X r g) (hr' : ROp X r' g') (ra : Fol X.K W (pD X.K) ta fa) (rb : Fol X.K W (pD X.K) tb fb) (rc : Fol X.K W (pD X.K) tc fc) : Fol X.K W (pD X.K) (tChain r r' ta tb tc) (chnM g g' fa fb fc) := fun w H σ s Q R p => by
  refine ra.bnd R p fun d s1 w1 H1 v1 l1 R1 r1 p1 => ?_
  refine rb.bnd R1 p1 fun e s2 w2 H2 v2 l2 R2 r2 p2 => ?_
  have as : ∀ K : Bool → M D, bnd (bnd (g d e) asB) K s2 = bnd (g d e) (fun z => bnd (asB z) K) s2 := fun K => by
    unfold bnd
    cases g d e s2 <;> rfl
  rw [as] at p2
  refine hr W w2 H2 σ s2 v1 v2 d e _ R2 (Rep.up l2 r1) r2 (p2.bnd fun z s3 w3 H3 v3 l3 R3 r3 p3 => ?_)
  cases r3 with
  | bl k =>
    refine ⟨k, rfl, ?_⟩
    cases k with
    | false =>
      rw [if_neg (by decide)]
      exact Post.here (show Post X.K W (pD X.K) w3 H3 σ (ret (.bl false) s3) Q from p3) R3 (Rep.bl _)
    | true =>
      rw [if_pos rfl]
      have p3 : Post X.K W (pD X.K) w3 H3 σ (bnd fc (fun x => g' e x) s3) Q := p3
      refine rc.bnd R3 p3 fun x s4 w4 H4 v4 l4 R4 r4 p4 => ?_
      exact hr' W w4 H4 σ s4 v2 v4 e x Q R4 (Rep.up l4 (Rep.up l3 r2)) r4 p4
  | _ => exact p3.elim
theorem de_chain {op op' : CmpOp} {r r' : R2} {g g' : D → D → M D} {a b c : Expr} {fa fb fc : M D} {pos : Pos} (ho : OpR X (compareOp op) r) (hr : ROp X r g) (ho' : OpR X (compareOp op') r') (hr' : ROp X r' g') (ha : DE X W a fa) (hb : DE X W b fb) (hc : DE X W c fc)
    (hm : lastMarks [op, op'] [b, c] = false := by with_unfolding_all rfl) : DE X W (.Compare a [op, op'] [b, c] pos) (chnM g g' fa fb fc) := by
  obtain ⟨ta, pa, ra⟩ := ha
  obtain ⟨tb, pb, rb⟩ := hb
  obtain ⟨tc, pc, rc⟩ := hc
  exact ⟨_, pe_chain ho ho' pa pb pc hm, chn_fol hr hr' ra rb rc⟩
theorem dt_chain {op op' : CmpOp} {r r' : R2} {g g' : D → D → M D} {a b c : Expr} {fa fb fc : M D} {pos : Pos} (ho : OpR X (compareOp op) r) (hr : ROp X r g) (ho' : OpR X (compareOp op') r') (hr' : ROp X r' g') (ha : DE X W a fa) (hb : DE X W b fb) (hc : DE X W c fc)
    (hm : lastMarks [op, op'] [b, c] = false := by with_unfolding_all rfl) : DT X W (.Compare a [op, op'] [b, c] pos) (tst (chnM g g' fa fb fc)) := by
  obtain ⟨ta, pa, ra⟩ := ha
  obtain ⟨tb, pb, rb⟩ := hb
  obtain ⟨tc, pc, rc⟩ := hc
  exact ⟨_, pt_chain ho ho' pa pb pc hm, tst_fol (chn_fol hr hr' ra rb rc)⟩
theorem x_chn {g g' : D → D → M D} {fa fb fc : M D} {s : S} : chnM g g' fa fb fc s = (fa s).then' fun d => bnd fb fun e => bnd (bnd (g d e) asB) fun k => if k = true then bnd fc fun x => g' e x else ret (.bl false) := nr rfl
end Fx

/-! Fx: len(set(xs)) of unlike ints -/
namespace Fx
open PySem PySem.Spec PyProof.Rows L2
variable {X : Cx} {W : WX}
def lenSetM (d : D) : M D := fun s => match lstOf s d with
  | some ds => match intsOf ds with
    | some ns => if ns.Nodup ∧ ns.length ≤ 4000 then .ok (.int ns.length) s else .bad
    | none => .bad
  | none => .bad
theorem de_lenSet {a : Expr} {fa : M D} {p p2 q pos : Pos} (hm : X.mg "len" = none) (hm2 : X.mg "set" = none) (ha : DE X W a fa) (hg : Gl X "len" := by rfl) (hg2 : Gl X "set" := by rfl) (hc : X.calm = true := by rfl)
    (na : starEach [a] X.env = (false, eval a X.env) :: starEach [] X.env := by rfl) : DE X W (.Call (.Name "len" p) [.Call (.Name "set" p2) [a] [] q] [] pos) (bnd fa lenSetM) := by
  obtain ⟨t, pe, r⟩ := ha
  refine ⟨_, RZ.pe_lenSetI hg hm hg2 hm2 pe hc na, fun w H σ s Q R z => ?_⟩
  refine r.bnd R z fun d s1 w1 H1 v l1 R1 r1 p1 => ?_
  unfold lenSetM at p1
  split at p1
  · next es hes =>
    split at p1
    · next ns hn =>
      split at p1
      · next hl =>
        obtain ⟨a, us, rfl, h1, h2⟩ := R1.list r1 hes
        rw [ints_rep' h2 hn] at h1
        exact ⟨a, ns, rfl, h1, hl.1, hl.2, Post.here p1 R1 (Rep.int _)⟩
      · exact p1.elim
    · exact p1.elim
  · exact p1.elim
theorem intsOf_D : ∀ ns : List Int, intsOf (ns.map D.int) = some ns
  | [] => rfl
  | n :: r => by rw [List.map_cons, intsOf, intsOf_D r]; rfl
theorem x_lenSet {d : D} {ns : List Int} {s : S} (h : lstOf s d = some (ns.map D.int)) (hd : ns.Nodup) (hl : ns.length ≤ 4000) : lenSetM d s = .ok (.int ns.length) s := by
  unfold lenSetM
  rw [h]
  dsimp only
  rw [intsOf_D]
  exact if_pos ⟨hd, hl⟩
end Fx

/-! Fx: xs[i] = v of a list -/
namespace Fx
open PySem PySem.Spec PyProof.Rows L2
section
variable {prog : Program} {w : World} {A : Around} {E : Value → Shared → Prop} {s : Shared}
/-- an item of a list is replaced, told by the heap that is left -/
theorem lput_run {l : Addr} {its : List Value} {n : Nat} {k : Int} {t : Tok} {v : Value} {Q : Unit → Shared → Prop} (e : s.heap.get? l = some { cls := .type "list", data := .seq its.toArray n }) (h0 : 0 ≤ k) (hf : k < 2 ^ 63) (hn : k < its.length)
    (h : Q () { s with heap := s.heap.update l (Obj.mapSeq (·.setIfInBounds k.toNat v)) }) : wpAny (model prog w) A (setItem (.ref l) (.int k t) v) Q E s := by
  have hl : s.heap.IsList l its.toArray := PySem.IsL.isList e
  unfold setItem
  try with_reducible refine wpAny_holding ?_
  first | refine wpAny_bind (wpAny_pure ?_) | skip
  refine wpAny_bind (wpAny_sequenceKey hl.typeIs (by decide) ?_)
  refine wpAny_bind (wpAny_callSpecial?_slot (name := Str.ofString "__setitem__") hl.typeIs slot_list_setitem (wpAny_call_entry slot_list_setitem hl.typeIs entry_list_setitem ?_ (args_list_setitem _ _ _)))
  show wpAny _ _ (Builtin.List.listSubscript? (.int k t) >>= _) _ _ s
  refine wpAny_bind (wpAny_listSubscript_int (fitsIndex_of h0 hf) ?_)
  clear hf
  obtain ⟨j, rfl⟩ := Int.eq_ofNat_of_zero_le h0
  have hj : j < its.toArray.size := by rw [List.size_toArray]; omega
  have hx : its.toArray[j]? = some its.toArray[j] := Array.getElem?_eq_getElem hj
  show wpAny _ _ ((seqItemAt l j >>= fun r => pure (r.map (j, ·))) >>= _) _ _ s
  refine wpAny_bind (wpAny_bind (wpAny_seqItemAt e rfl (wpAny_pure ?_)))
  rw [hx]
  show wpAny _ _ (setSeqItemAt l j v >>= _) _ _ s
  refine wpAny_bind (wpAny_setSeqItemAt e rfl ?_)
  first
    | exact wpAny_bind (wpAny_pure (wpAny_pure ⟨.none, rfl, wpAny_pure h⟩))
    | exact wpAny_pure ⟨.none, rfl, wpAny_pure h⟩
end
section
variable {X : Cx} {o i value : Expr} {pos pos' : Pos}
def tLPut (to ti tv : TE) : TS := fun D σ H => tv σ H fun v H1 => to σ H1 fun x H2 => ti σ H2 fun y H3 => ∃ (l : Addr) (xs : List V) (k : Nat), x = .ref l ∧ y = .int (k : Int) ∧ H3 l = some (.lst xs) ∧ k < xs.length ∧ D.nx σ (upd H3 l (.lst (xs.set k v)))
theorem ps_lput {to ti tv : TE} (ho : PE X o to) (hi : PE X i ti) (hv : PE X value tv) (hs : swapsWith value (some (.Subscript o i pos')) pos.line X.env = pure false) : PS X (.Assign [.Subscript o i pos'] value pos) (tLPut to ti tv) := by
  refine ⟨fun pins s σ H D I h => ?_⟩
  refine wpAny_Assign_Subscript (thn (hv.run pins s σ H _ I h) fun r s1 ⟨v, H1, I1, rv, q1⟩ => thn (ho.run pins s1 σ H1 _ I1 q1) fun u s2 ⟨x, H2, I2, rx, q2⟩ => thn (hi.run pins s2 σ H2 _ I2 q2) fun iv s3 ⟨y, H3, I3, ry, l, xs, k, ex, ey, hH, hk, q3⟩ => ?_) hs
  subst ex
  subst ey
  cases (show u = Value.ref l from rx)
  obtain ⟨t, rfl⟩ := (show ∃ t, iv = Value.int (k : Int) t from ry)
  obtain ⟨z, its, n, r3, hl, e⟩ := I3.lstM hH
  have hz : sizeLine < 2 ^ 63 := by rw [sizeLine_eq]; decide
  refine lput_run e (by omega) (by omega) (by omega) ?_
  refine ⟨σ, _, I3.lset (its' := its.set k r) (t' := s3.toks) hH e ?_ (Vals.set rv k r3) (by rw [List.length_set]; exact z), q3⟩
  show its.toArray.setIfInBounds k r = (its.set k r).toArray
  rw [List.setIfInBounds_toArray]
end
def lputM (v d e : D) : M Out := fun s => match d, e with
  | .cell n, .int i => match s.vh[n]? with
    | some (.lst ds) => if 0 ≤ i ∧ i.toNat < ds.length then .ok .nx ⟨s.loc, s.vh.set n (.lst (ds.set i.toNat v))⟩ else .bad
    | _ => .bad
  | _, _ => .bad
def lputS (fo fi fv : M D) : M Out := bnd fv fun v => bnd fo fun d => bnd fi fun e => lputM v d e
section
variable {X : Cx} {W : WX} {o i : Expr} {fo fi : M D} {pos pos' : Pos}
theorem ds_lput {value : Expr} {fv : M D} (ho : DE X W o fo) (hi : DE X W i fi) (hv : DE X W value fv) (hs : swapsWith value (some (.Subscript o i pos')) pos.line X.env = pure false := by rfl) : DS X W (.Assign [.Subscript o i pos'] value pos) (lputS fo fi fv) := by
  obtain ⟨t, p, r⟩ := ho
  obtain ⟨u, q, h⟩ := hi
  obtain ⟨y, p', k⟩ := hv
  refine ⟨_, ps_lput p q p' hs, fun w H σ s D R z => ?_⟩
  refine k.bndS R z fun v s1 w1 H1 v1 l1 R1 r1 p1 => ?_
  refine r.bndS R1 p1 fun d s2 w2 H2 v2 l2 R2 r2 p2 => ?_
  refine h.bndS R2 p2 fun e s3 w3 H3 v3 l3 R3 r3 p3 => ?_
  unfold lputM at p3
  split at p3
  · next n j =>
    split at p3
    · next ds hds =>
      split at p3
      · next hl =>
        have r2' := Rep.up l3 r2
        cases r2' with
        | @cell a n h1 =>
          obtain ⟨c, e, hc⟩ := R3.cellOf h1
          rw [hds] at e
          cases e
          obtain ⟨vs, h2, h3⟩ := hc
          cases r3
          have e1 : ((j.toNat : Nat) : Int) = j := Int.toNat_of_nonneg hl.1
          refine ⟨a, vs, j.toNat, rfl, by rw [e1], h2, by rw [RepL.length h3]; exact hl.2, ?_⟩
          exact p3 w3 _ σ (Le.write (List.mem_of_getElem? h1)) (R3.setCell h1 ⟨_, upd_same, RepL.set ((r1.up l2).up l3) _ h3⟩)
      · exact p3.elim
    · exact p3.elim
  · exact p3.elim
end
/-! equations -/
theorem x_lputS {fo fi fv : M D} {s : S} : lputS fo fi fv s = (fv s).then' fun v => bnd fo fun d => bnd fi fun e => lputM v d e := nr rfl
def lputR (v : D) (n : Nat) (i : Int) (o : Option Cell) (s : S) : Res Out := match o with
  | some (.lst ds) => if 0 ≤ i ∧ i.toNat < ds.length then .ok .nx ⟨s.loc, s.vh.set n (.lst (ds.set i.toNat v))⟩ else .bad
  | _ => .bad
theorem x_lput {v : D} {n : Nat} {i : Int} {s : S} : lputM v (.cell n) (.int i) s = lputR v n i s.vh[n]? s := by
  unfold lputM lputR
  dsimp only
  all_goals (cases s.vh[n]? with
    | none => rfl
    | some c => cases c <;> rfl)
theorem x_lputR {v : D} {n : Nat} {i : Int} {ds : List D} {s : S} (h : 0 ≤ i) (h2 : i.toNat < ds.length) : lputR v n i (some (.lst ds)) s = .ok .nx ⟨s.loc, s.vh.set n (.lst (ds.set i.toNat v))⟩ := if_pos ⟨h, h2⟩
theorem x_unp2 {i j : Nat} {a b : D} {s : S} : unp2 i j (.tup [a, b]) s = .ok .nx ⟨(s.loc.set i (some a)).set j (some b), s.vh⟩ := nr rfl
theorem x_unp3 {i j k : Nat} {a b c : D} {s : S} : unp3 i j k (.tup [a, b, c]) s = .ok .nx ⟨((s.loc.set i (some a)).set j (some b)).set k (some c), s.vh⟩ := nr rfl
end Fx

/-! Fx: dicts by their methods: get, pop, update; dict(pairs), dict(d), list(d); values, items; reversed -/
namespace Fx
open PySem PySem.Spec PyProof.Rows L2
variable {X : Cx} {W : WX}
/-! ### dict(x) -/
def rDictC (K : PySem.W.Frag) (xs : List V) (H : Hp) (Q : VK) : Prop :=
  (∃ (a : Addr) (kvs : List (Key × V)), xs = [.ref a] ∧ Rd H a (.dK kvs) ∧ ∀ p, H p = none → Q (.ref p) (upd H p (.dK kvs))) ∨
  ∃ (a : Addr) (ps : List Addr) (kvs : List (Key × V)), xs = [.ref a] ∧ (SqL K H a (ps.map V.ref) ∨ TupC H a (ps.map V.ref)) ∧ Paired (fun p kv => SqT K H p [kV kv.1, kv.2]) ps kvs ∧ ∀ p, H p = none → Q (.ref p) (upd H p (.dK (mergeK [] kvs)))
theorem call_dictT (hc : X.calm = true) : CallR X (.type "dict") (fun xs H Q => ∃ (a : Addr) (ps : List Addr) (kvs : List (Key × V)), xs = [.ref a] ∧ TupC H a (ps.map V.ref) ∧ Paired (fun p kv => SqT X.K H p [kV kv.1, kv.2]) ps kvs ∧ ∀ p, H p = none → Q (.ref p) (upd H p (.dK (mergeK [] kvs)))) := by
  intro pins s σ H xs us Q I r h
  obtain ⟨a, ps, kvs, e, ⟨o, eo, hd⟩, hp, q⟩ := h
  subst e
  obtain ⟨u, e, ru⟩ := vals1 r
  subst e
  cases ru
  have ok := I.hok _ _ eo
  obtain ⟨ho, hz, its, rv, o2, ho2, hcl, n, hdat⟩ := ok
  rw [ho] at ho2
  cases ho2
  have ei := refs_at rv
  subst ei
  obtain ⟨prs, rel, hl, hpr⟩ := pairs_of I hp
  have fu : ∀ j : Nat, ∃ u : Value, ∀ q, prs[j]? = some q → ∃ b, ps[j]? = some b ∧ IsTup s.heap b #[u, q.2] ∧ keyIs q.1 u = true := fun j => by
    cases e : prs[j]? with
    | none => exact ⟨.none, fun q h => by cases h⟩
    | some q => obtain ⟨b, u, e1, e2, e3⟩ := hpr j q e; exact ⟨u, fun q' h => by cases h; exact ⟨b, e1, e2, e3⟩⟩
  obtain ⟨U, hU⟩ := Classical.skolem.mp fu
  obtain ⟨prs2, hp2⟩ : ∃ prs2 : List (Value × Value), prs2 = (List.range prs.length).map fun j => (U j, (prs[j]?.map (·.2)).getD .none) := ⟨_, rfl⟩
  have l2 : prs2.length = prs.length := by rw [hp2, List.length_map, List.length_range]
  have at2 : ∀ j k v, prs2[j]? = some (k, v) → ∃ q, prs[j]? = some q ∧ k = U j ∧ v = q.2 := fun j k v e => by
    have hj : j < prs.length := by rw [← l2]; exact (List.getElem?_eq_some_iff.mp e).1
    rw [hp2, List.getElem?_map, List.getElem?_range hj] at e
    have e3 := List.getElem?_eq_getElem hj
    simp only [Option.map_some, e3, Option.getD_some, Option.some.injEq, Prod.mk.injEq] at e
    exact ⟨prs[j], e3, e.1.symm, e.2.symm⟩
  have P : PySem.PairArg X.prog X.w "tuple" a _ [] _ _ _ := PySem.PairArg.tuple a (ps.map Value.ref).toArray (fun j => (ps[j]?).getD 0) prs2
  refine PySem.call_dict_pairs (knd := mixKind X.prog X.w) (kvs := prs) P (I.ok.hd hc) ⟨⟨o, n, ho, hcl, hd, hdat⟩, ?_, fun j k v e => ?_⟩ ⟨?_, fun i k v e => ?_⟩ ?_ fun h' tk hd' hk => ?_
  · rw [l2, hl]; simp
  · obtain ⟨q, e1, rfl, rfl⟩ := at2 j k v e
    obtain ⟨b, e2, e3, e4⟩ := hU j q e1
    dsimp only
    rw [e2]
    exact ⟨by simp [e2], .inl e3⟩
  · rw [l2]
  · obtain ⟨q, e1, rfl, rfl⟩ := at2 i k v e
    obtain ⟨b, e2, e3, e4⟩ := hU i q e1
    exact ⟨q.1, e1, e4⟩
  · rw [l2, hl]
    rw [List.length_map] at hz
    exact hz
  · have hm : (s.heap.objs.size == sysModules) = false := beq_eq_false_iff_ne.mpr (Nat.ne_of_gt I.big)
    have hlen : (mergeK [] kvs).length ≤ sizeLine := by
      refine Nat.le_trans (length_mergeK kvs []) ?_
      rw [List.length_nil, Nat.zero_add, rel.length, hl]
      rw [List.length_map] at hz
      exact hz
    refine ⟨.ref s.heap.objs.size, _, ?_, rfl, q _ (I.hok.fresh (Nat.le_refl _))⟩
    exact I.laid (t' := tk) (fun b ob e => hk b ob (by simp) e) (Nat.le_refl _) (show ObjOk X.prog X.w _ _ _ (.dK (mergeK [] kvs)) from ⟨hlen, hm, _, KV.merge rel .nil, hd'⟩)
theorem call_dictC (hc : X.calm = true) : CallR X (.type "dict") (rDictC X.K) := by
  intro pins s σ H xs us Q I r h
  rcases h with h | ⟨a, ps, kvs, e, h | h, hp, q⟩
  · exact call_dictD pins s σ H xs us Q I r h
  · exact call_dictP hc pins s σ H xs us Q I r ⟨a, ps, kvs, e, h, hp, q⟩
  · exact call_dictT hc pins s σ H xs us Q I r ⟨a, ps, kvs, e, h, hp, q⟩
/-- pairs of a key and a datum -/
def pairsD : List D → Option (List (Key × D))
  | [] => some []
  | .tup [k, v] :: r => match keyD k, pairsD r with
    | some q, some kvs => some ((q, v) :: kvs)
    | _, _ => none
  | _ => none
def dictN : List D → M Cell
  | [d] => fun s => match dctR s d with
    | some kvs => .ok (.dct kvs) s
    | none => match d with
      | .tup ds => match pairsD ds with
        | some kvs => .ok (.dct (mergeA [] kvs)) s
        | none => .bad
      | d => match lstOf s d with
        | some ds => match pairsD ds with
          | some kvs => .ok (.dct (mergeA [] kvs)) s
          | none => .bad
        | none => .bad
  | _ => fun _ => .bad
theorem pairs_rep {K : PySem.W.Frag} {w : Wd} {H : Hp} (sub : ∀ a o, w.F a = some o → H a = some o) : ∀ {ds : List D} {kvs : List (Key × D)} {vs : List V}, RepL K w vs ds → pairsD ds = some kvs → ∃ (ps : List Addr) (us : List (Key × V)), vs = ps.map V.ref ∧ Paired (fun p kv => SqT K H p [kV kv.1, kv.2]) ps us ∧ RepK K w us kvs
  | _, _, _, .nil, h => by cases h; exact ⟨[], [], rfl, .nil, .nil⟩
  | _, _, _, .cons (d := d) (ds := ds) r t, h => by
    unfold pairsD at h
    split at h
    · next e => cases e
    · next k v r' e =>
      cases e
      cases hk : keyD k with
      | none => rw [hk] at h; cases h
      | some q =>
        cases hr : pairsD ds with
        | none => rw [hk, hr] at h; cases h
        | some kvs' =>
          rw [hk, hr] at h
          cases h
          obtain ⟨ps, us, e1, e2, e3⟩ := pairs_rep sub t hr
          cases r with
          | @tup a vs _ h1 t1 =>
            cases t1 with
            | cons r1 t2 =>
              cases t2 with
              | cons r2 t3 =>
                cases t3
                refine ⟨a :: ps, (q, _) :: us, by rw [e1]; rfl, .cons ?_ e2, .cons r2 e3⟩
                have := (h1.up sub).sq (K := K)
                rw [key_of r1 hk] at this
                exact this
    · cases h
theorem rc_dict : RCalN X (rDictC X.K) dictN := by
  intro W w H σ s vs ds Q R r p
  unfold dictN at p
  split at p
  · next d =>
    obtain ⟨v, rfl, rv⟩ := one_of r
    have fin : ∀ (l : Addr) (us : List (Key × V)) (kvs : List (Key × D)), RepK X.K w us kvs → H l = none → Post X.K W (pN X.K) w H σ (.ok (.dct kvs) s) Q → Q (.ref l) (upd H l (.dK us)) := fun l us kvs hk hl p =>
      p w _ _ (Le.laid hl) (R.laid hl) ⟨l, rfl, (R.fresh hl).1, (R.fresh hl).2, ⟨_, upd_same, hk⟩, hl⟩
    split at p
    · next kvs hd =>
      obtain ⟨a, us, e1, h1, h2⟩ := R.dictR rv hd
      exact .inl ⟨a, us, by rw [e1], h1, fun l hl => fin l us kvs h2 hl p⟩
    · split at p
      · next es =>
        split at p
        · next kvs hp =>
          cases rv with
          | tup h1 t =>
            obtain ⟨ps, us, e1, e2, e3⟩ := pairs_rep R.sub t hp
            subst e1
            exact .inr ⟨_, ps, us, rfl, .inr (h1.up R.sub), e2, fun l hl => fin l _ _ (RepK.merge e3 .nil) hl p⟩
        · exact p.elim
      · split at p
        · next es he =>
          split at p
          · next kvs hp =>
            obtain ⟨a, us', rfl, h1, h2⟩ := R.list rv he
            obtain ⟨ps, us, e1, e2, e3⟩ := pairs_rep R.sub h2 hp
            subst e1
            exact .inr ⟨_, ps, us, rfl, .inl h1, e2, fun l hl => fin l _ _ (RepK.merge e3 .nil) hl p⟩
          · exact p.elim
        · exact p.elim
  · exact p.elim
/-! ### list(d) -/
def listDN : List D → M Cell
  | [d] => fun s => match dctR s d with
    | some kvs => .ok (.lst (kvs.map fun kv => dK kv.1)) s
    | none => .bad
  | _ => fun _ => .bad
theorem rep_keys {K : PySem.W.Frag} {w : Wd} : ∀ {us : List (Key × V)} {kvs : List (Key × D)}, RepK K w us kvs → RepL K w (us.map fun kv => kV kv.1) (kvs.map fun kv => dK kv.1)
  | _, _, .nil => .nil
  | _, _, .cons h t => .cons (rep_key _) (rep_keys t)
theorem rc_listD : RCalN X (fun xs H Q => ∃ (a : Addr) (kvs : List (Key × V)), xs = [.ref a] ∧ Rd H a (.dK kvs) ∧ ∀ p, H p = none → Q (.ref p) (upd H p (.lst (kvs.map fun kv => kV kv.1)))) listDN := by
  intro W w H σ s vs ds Q R r p
  unfold listDN at p
  split at p
  · next d =>
    obtain ⟨v, rfl, rv⟩ := one_of r
    split at p
    · next kvs hd =>
      obtain ⟨a, us, e1, h1, h2⟩ := R.dictR rv hd
      exact ⟨a, us, by rw [e1], h1, fun l hl => p w _ _ (Le.laid hl) (R.laid hl) ⟨l, rfl, (R.fresh hl).1, (R.fresh hl).2, ⟨_, upd_same, rep_keys h2⟩, hl⟩⟩
    · exact p.elim
  · exact p.elim
/-! ### d.get(k), d.get(k, x), d.pop(k), d.pop(k, x) -/
def getM (d e : D) (x : D) : M D := fun s => match dctR s d, keyD e with
  | some kvs, some k => .ok ((valA kvs k).getD x) s
  | _, _ => .bad
/-- a dict, then what is done with it -/
def onD (fo : M D) (f : D → M D) : M D := bnd fo fun d s => if (dctR s d).isSome = true then f d s else .bad
def getE1 (fo fk : M D) : M D := onD fo fun d => bnd fk fun e => getM d e .non
def getE2 (fo fk fx : M D) : M D := onD fo fun d => bnd fk fun e => bnd fx fun x => getM d e x
def popDM (d e : D) (x : Option D) : M D := fun s => match d, keyD e with
  | .cell n, some k => match s.vh[n]? with
    | some (.dct kvs) => match valA kvs k, x with
      | some v, _ => .ok v ⟨s.loc, s.vh.set n (.dct (dropA kvs k))⟩
      | none, some x => .ok x s
      | none, none => .bad
    | _ => .bad
  | _, _ => .bad
def popE1 (fo fk : M D) : M D := onD fo fun d => bnd fk fun e => popDM d e none
def popE2 (fo fk fx : M D) : M D := onD fo fun d => bnd fk fun e => bnd fx fun x => popDM d e (some x)
section
variable {o e f : Expr} {fo fe ff : M D} {apos cpos : Pos}
theorem onD_fol {td : TE} {F : D → M D} {Q : V → Hp → Prop} {w : Wd} {H : Hp} {σ : L2.St} {s : S} (r : Fol X.K W (pD X.K) td fo) (R : RS X.K w H σ s) (z : Post X.K W (pD X.K) w H σ (onD fo F s) Q) {G : V → Hp → Prop}
    (h : ∀ d s1 w1 H1 a, Le w H w1 H1 → RS X.K w1 H1 σ s1 → Rep X.K w1 (.ref a) d → IsD H1 a → Post X.K W (pD X.K) w1 H1 σ (F d s1) Q → G (.ref a) H1) : td σ H G := by
  refine r.bnd R z fun d s1 w1 H1 v1 l1 R1 r1 p1 => ?_
  split at p1
  · next hs =>
    obtain ⟨kvs, hk⟩ := Option.isSome_iff_exists.mp hs
    obtain ⟨a, us, e1, h1, h2⟩ := R1.dictR r1 hk
    subst e1
    exact h d s1 w1 H1 a l1 R1 r1 (.inl ⟨us, h1⟩) p1
  · exact p1.elim
theorem get_at {Q : V → Hp → Prop} {w : Wd} {H : Hp} {σ : L2.St} {s : S} {a : Addr} {y z : V} {d e x : D} (R : RS X.K w H σ s) (r : Rep X.K w (.ref a) d) (re : Rep X.K w y e) (rx : Rep X.K w z x) (p : Post X.K W (pD X.K) w H σ (getM d e x s) Q) :
    ∃ ov, DGet H a y ov ∧ Q (ov.getD z) H := by
  unfold getM at p
  split at p
  · next kvs k hd hk =>
    obtain ⟨a', us, e1, h1, h2⟩ := R.dictR r hd
    cases e1
    have e2 := key_of re hk
    refine ⟨valV us k, .inl ⟨us, k, h1, e2, rfl⟩, ?_⟩
    cases hv : valA kvs k with
    | none =>
      rw [(RepK.val (k := k) h2).1 hv]
      rw [hv] at p
      exact Post.here p R rx
    | some v =>
      obtain ⟨u, h3, h4⟩ := (RepK.val (k := k) h2).2 v hv
      rw [h3]
      rw [hv] at p
      exact Post.here p R h4
  · exact p.elim
theorem de_get1 (hu : X.A.units + 64 < cLine) (ho : DE X W o fo) (he : DE X W e fe) (hbase : attributeBase o "get" X.env (eval o X.env) = eval o X.env := by rfl)
    (hfew : ((backTo cpos (starEach [e] X.env)).all (fun x => !x.1) && (backToKw cpos (keywordEach [] X.env)).all (fun x => x.1.isSome)
      && decide (([e] : List Expr).length + ([] : List Keyword).length + (if ([] : List Keyword).isEmpty then 0 else 1) < 30)) = true := by rfl)
    (hline : (apos.endLine == cpos.line) = true := by rfl) (htrees : backTo cpos (starEach [e] X.env) = [(false, eval e X.env)] := by rfl) : DE X W (.Call (.Attribute o "get" apos) [e] [] cpos) (getE1 fo fe) := by
  obtain ⟨t, p, r⟩ := ho
  obtain ⟨u, q, h⟩ := he
  refine ⟨_, pe_dget1 (by omega) p q ⟨hbase, hfew, hline, htrees⟩, fun w H σ s Q R z => ?_⟩
  refine onD_fol r R z fun d s1 w1 H1 a l1 R1 r1 hd p1 => ⟨a, rfl, hd, ?_⟩
  exact h.bnd R1 p1 fun e s2 w2 H2 v2 l2 R2 r2 p2 => get_at R2 (Rep.up l2 r1) r2 .non p2
theorem de_get2 (hu : X.A.units + 64 < cLine) (ho : DE X W o fo) (he : DE X W e fe) (hf : DE X W f ff) (hbase : attributeBase o "get" X.env (eval o X.env) = eval o X.env := by rfl)
    (hfew : ((backTo cpos (starEach [e, f] X.env)).all (fun x => !x.1) && (backToKw cpos (keywordEach [] X.env)).all (fun x => x.1.isSome)
      && decide (([e, f] : List Expr).length + ([] : List Keyword).length + (if ([] : List Keyword).isEmpty then 0 else 1) < 30)) = true := by rfl)
    (hline : (apos.endLine == cpos.line) = true := by rfl) (htrees : backTo cpos (starEach [e, f] X.env) = [(false, eval e X.env), (false, eval f X.env)] := by rfl) : DE X W (.Call (.Attribute o "get" apos) [e, f] [] cpos) (getE2 fo fe ff) := by
  obtain ⟨t, p, r⟩ := ho
  obtain ⟨u, q, h⟩ := he
  obtain ⟨u', q', h'⟩ := hf
  refine ⟨_, pe_dget2 (by omega) p q q' ⟨hbase, hfew, hline, htrees⟩, fun w H σ s Q R z => ?_⟩
  refine onD_fol r R z fun d s1 w1 H1 a l1 R1 r1 hd p1 => ⟨a, rfl, hd, ?_⟩
  refine h.bnd R1 p1 fun e s2 w2 H2 v2 l2 R2 r2 p2 => ?_
  exact h'.bnd R2 p2 fun x s3 w3 H3 v3 l3 R3 r3 p3 => get_at R3 (Rep.up l3 (Rep.up l2 r1)) (Rep.up l3 r2) r3 p3
theorem pop_at {Q : V → Hp → Prop} {w : Wd} {H : Hp} {σ : L2.St} {s : S} {a : Addr} {y : V} {d e : D} {xo : Option D} {z : V} (R : RS X.K w H σ s) (r : Rep X.K w (.ref a) d) (re : Rep X.K w y e) (rx : ∀ x, xo = some x → Rep X.K w z x) (p : Post X.K W (pD X.K) w H σ (popDM d e xo s) Q) :
    ∃ kvs k, H a = some (.dK kvs) ∧ y = kV k ∧ (∀ v, valV kvs k = some v → Q v (upd H a (.dK (dropK kvs k)))) ∧ (valV kvs k = none → (∃ x, xo = some x) ∧ Q z H) := by
  unfold popDM at p
  split at p
  · next n k hk =>
    split at p
    · next kvs hn =>
      obtain ⟨a', us, e1, h0, h1, h2⟩ := R.dictW r rfl hn
      cases e1
      refine ⟨us, k, h1, key_of re hk, fun v hv => ?_, fun hv => ?_⟩
      · cases ha : valA kvs k with
        | none => rw [(RepK.val (k := k) h2).1 ha] at hv; cases hv
        | some d' =>
          obtain ⟨u, h3, h4⟩ := (RepK.val (k := k) h2).2 d' ha
          rw [h3] at hv
          cases hv
          rw [ha] at p
          exact p w _ _ (Le.write (List.mem_of_getElem? h0)) (R.setCell h0 ⟨_, upd_same, RepK.drop h2⟩) h4
      · cases ha : valA kvs k with
        | some d' => obtain ⟨u, h3, h4⟩ := (RepK.val (k := k) h2).2 d' ha; rw [h3] at hv; cases hv
        | none =>
          rw [ha] at p
          cases xo with
          | none => exact p.elim
          | some x => exact ⟨⟨x, rfl⟩, Post.here p R (rx x rfl)⟩
    · exact p.elim
  · exact p.elim
theorem de_pop1 (ho : DE X W o fo) (he : DE X W e fe) (hbase : attributeBase o "pop" X.env (eval o X.env) = eval o X.env := by rfl)
    (hfew : ((backTo cpos (starEach [e] X.env)).all (fun x => !x.1) && (backToKw cpos (keywordEach [] X.env)).all (fun x => x.1.isSome)
      && decide (([e] : List Expr).length + ([] : List Keyword).length + (if ([] : List Keyword).isEmpty then 0 else 1) < 30)) = true := by rfl)
    (hline : (apos.endLine == cpos.line) = true := by rfl) (htrees : backTo cpos (starEach [e] X.env) = [(false, eval e X.env)] := by rfl) : DE X W (.Call (.Attribute o "pop" apos) [e] [] cpos) (popE1 fo fe) := by
  obtain ⟨t, p, r⟩ := ho
  obtain ⟨u, q, h⟩ := he
  refine ⟨_, pe_dpop1 p q ⟨hbase, hfew, hline, htrees⟩, fun w H σ s Q R z => ?_⟩
  refine onD_fol r R z fun d s1 w1 H1 a l1 R1 r1 hd p1 => ⟨a, rfl, hd, ?_⟩
  refine h.bnd R1 p1 fun e s2 w2 H2 v2 l2 R2 r2 p2 => ?_
  obtain ⟨kvs, k, h1, h2, h3, h4⟩ := pop_at (z := .non) R2 (Rep.up l2 r1) r2 (fun x z => by cases z) p2
  cases hv : valV kvs k with
  | none => obtain ⟨⟨x, hx⟩, _⟩ := h4 hv; cases hx
  | some v => exact ⟨kvs, k, v, h1, h2, hv, h3 v hv⟩
theorem de_pop2 (ho : DE X W o fo) (he : DE X W e fe) (hf : DE X W f ff) (hbase : attributeBase o "pop" X.env (eval o X.env) = eval o X.env := by rfl)
    (hfew : ((backTo cpos (starEach [e, f] X.env)).all (fun x => !x.1) && (backToKw cpos (keywordEach [] X.env)).all (fun x => x.1.isSome)
      && decide (([e, f] : List Expr).length + ([] : List Keyword).length + (if ([] : List Keyword).isEmpty then 0 else 1) < 30)) = true := by rfl)
    (hline : (apos.endLine == cpos.line) = true := by rfl) (htrees : backTo cpos (starEach [e, f] X.env) = [(false, eval e X.env), (false, eval f X.env)] := by rfl) : DE X W (.Call (.Attribute o "pop" apos) [e, f] [] cpos) (popE2 fo fe ff) := by
  obtain ⟨t, p, r⟩ := ho
  obtain ⟨u, q, h⟩ := he
  obtain ⟨u', q', h'⟩ := hf
  refine ⟨_, pe_dpop2 p q q' ⟨hbase, hfew, hline, htrees⟩, fun w H σ s Q R z => ?_⟩
  refine onD_fol r R z fun d s1 w1 H1 a l1 R1 r1 hd p1 => ⟨a, rfl, hd, ?_⟩
  refine h.bnd R1 p1 fun e s2 w2 H2 v2 l2 R2 r2 p2 => ?_
  refine h'.bnd R2 p2 fun x s3 w3 H3 v3 l3 R3 r3 p3 => ?_
  obtain ⟨kvs, k, h1, h2, h3, h4⟩ := pop_at R3 (Rep.up l3 (Rep.up l2 r1)) (Rep.up l3 r2) (fun x z => by cases z; exact r3) p3
  exact ⟨kvs, k, h1, h2, h3, fun hv => (h4 hv).2⟩
end
/-! ### reversed(xs), walked -/
def revI (d : D) : M Wk := fun s => match d with
  | .tup ds => .ok ⟨ds.reverse, fun _ => True⟩ s
  | d => match lstOf s d with
    | some ds => .ok ⟨ds.reverse, fun s' => lstOf s' d = some ds⟩ s
    | none => .bad
theorem rev_get {α : Type} {ds : List α} {i : Nat} (h : i < ds.length) : ds.reverse[i]? = ds[ds.length - 1 - i]? := List.getElem?_reverse h
theorem pI_revL {K : PySem.W.Frag} {w0 : Wd} {a : Addr} {d : D} {ds : List D} (ra : Rep K w0 (.ref a) d) {n : Nat} (hn : n = ds.length) : wkI K w0 (Itv K a n) ⟨ds.reverse, fun s' => lstOf s' d = some ds⟩ := by
  intro w H σ s l R hok i
  obtain ⟨a', vs, e1, h1, h2⟩ := R.list (ra.upW l) hok
  cases e1
  have hl := RepL.length h2
  refine ⟨fun hi => ?_, fun hi => by rw [List.length_reverse] at hi; rw [hn]; exact hi, fun x H' hy d' hd => ?_⟩
  · rw [List.length_reverse] at hi
    obtain ⟨v, hv, _⟩ := RepL.get h2 (List.getElem?_eq_getElem (show ds.length - 1 - i < ds.length by omega))
    exact ⟨by omega, vs, v, h1, by rw [hn]; exact hv⟩
  · obtain ⟨rfl, f⟩ := hy
    have hd : ds.reverse[i]? = some d' := hd
    have hi : i < ds.length := by have := (List.getElem?_eq_some_iff.mp hd).1; rw [List.length_reverse] at this; exact this
    rw [rev_get hi] at hd
    obtain ⟨v, hv, rv⟩ := RepL.get h2 hd
    have e := f vs h1
    rw [hn, hv] at e
    cases e
    exact ⟨w, Le.refl _ _, R, rv⟩
theorem pI_revT {K : PySem.W.Frag} {w0 : Wd} {a : Addr} {ds : List D} (ra : Rep K w0 (.ref a) (.tup ds)) {n : Nat} (hn : n = ds.length) : wkI K w0 (RT.ItvT K a n) ⟨ds.reverse, fun _ => True⟩ := by
  intro w H σ s l R hok i
  obtain ⟨a', vs, e1, h1, h2⟩ := R.tuple (ra.upW l) (ds := ds) rfl
  cases e1
  have hl := RepL.length h2
  refine ⟨fun hi => ?_, fun hi => by rw [List.length_reverse] at hi; rw [hn]; exact hi, fun x H' hy d' hd => ?_⟩
  · rw [List.length_reverse] at hi
    obtain ⟨v, hv, _⟩ := RepL.get h2 (List.getElem?_eq_getElem (show ds.length - 1 - i < ds.length by omega))
    exact ⟨by omega, vs, v, h1, by rw [hn]; exact hv⟩
  · obtain ⟨rfl, f⟩ := hy
    have hd : ds.reverse[i]? = some d' := hd
    have hi : i < ds.length := by have := (List.getElem?_eq_some_iff.mp hd).1; rw [List.length_reverse] at this; exact this
    rw [rev_get hi] at hd
    obtain ⟨v, hv, rv⟩ := RepL.get h2 hd
    have e := f vs h1
    rw [hn, hv] at e
    cases e
    exact ⟨w, Le.refl _ _, R, rv⟩
theorem di_rev {tg e : Expr} {f : M D} {p pos : Pos} (hm : X.mg "reversed" = none) (h : DE X W e f) (hg : Gl X "reversed" := by rfl) (hs : starEach [e] X.env = (false, eval e X.env) :: starEach [] X.env := by rfl) :
    DI X W tg (.Call (.Name "reversed" p) [e] [] pos) (bnd f revI) := by
  obtain ⟨t, q, r⟩ := h
  refine ⟨_, RT.pi_revA hg hm q hs, fun w H σ s R0 R z => ?_⟩
  refine r.bnd R z fun d s1 w1 H1 v l1 R1 r1 p1 => ?_
  unfold revI at p1
  split at p1
  · next ds =>
    obtain ⟨a, vs, e1, h1, h2⟩ := R1.tuple r1 (ds := ds) rfl
    subst e1
    exact ⟨a, vs, rfl, .inr ⟨h1, p1 w1 H1 _ (Le.refl _ _) R1 (pI_revT r1 (RepL.length h2))⟩⟩
  · split at p1
    · next ds hd =>
      obtain ⟨a, vs, e1, h1, h2⟩ := R1.list r1 hd
      subst e1
      exact ⟨a, vs, rfl, .inl ⟨h1, p1 w1 H1 _ (Le.refl _ _) R1 (pI_revL r1 (RepL.length h2))⟩⟩
    · exact p1.elim
end Fx

/-! Fx: d.update(e); d.values(), d.items(), walked under the lock; equations for dicts -/
namespace Fx
open PySem PySem.Spec PyProof.Rows L2
variable {X : Cx} {W : WX}
/-! ### d.update(e), e another dict -/
def tUpd (td te : TE) : TE := fun σ H Q => td σ H fun x H1 => ∃ a, x = .ref a ∧ IsD H1 a ∧ te σ H1 fun y H2 => ∃ (b : Addr) (kvs more : List (Key × V)), y = .ref b ∧ a ≠ b ∧ H2 a = some (.dK kvs) ∧ Rd H2 b (.dK more) ∧ kvs.length + more.length ≤ sizeLine ∧ Q .non (upd H2 a (.dK (mergeK kvs more)))
theorem pe_upd {o e : Expr} {apos cpos : Pos} {td te : TE} (ho : PE X o td) (he : PE X e te) (m : M1 X o "update" apos e cpos) : PE X (.Call (.Attribute o "update" apos) [e] [] cpos) (tUpd td te) :=
  ⟨fun pins s σ H Q I h => wpAny_Call_method m.base m.few m.line PySem.F.plainAttrs_dict PySem.F.slot_dict_update PySem.F.type_dict_update (thn (ho.run pins s σ H _ I h) fun u s1 ⟨x, H1, I1, rx, a, ex, d, q1⟩ => by
    subst ex
    obtain rfl : u = Value.ref a := rx
    obtain ⟨t1, t2, _⟩ := isD_at I1 d
    refine ⟨t1, t2, ?_⟩
    rw [m.trees]
    refine Calls.callWith_builtin rfl (Calls.evalArgs_plain (Calls.spliced_cons (thn (he.run pins s1 σ H1 _ I1 q1) fun iv s2 ⟨y, H2, I2, ry, b, kvs, more, ey, hne, h1, h2, hz, q2⟩ => Calls.spliced_nil ?_)))
    subst ey
    obtain rfl : iv = Value.ref b := ry
    obtain ⟨z, hd, vs, rel, dd⟩ := dk_of I2.hok h1
    obtain ⟨z', hd', vs', rel', dd'⟩ := dk_rd I2.hok h2
    refine call_meetsIn PySem.F.slot_dict_update dd.typeIs PySem.F.entry_dict_update (PySem.F.args_dict_update_2 _ _) (meets_dict_update (mixKind X.prog X.w) a b hne hd') ⟨vs, vs', dd, dd', by rw [← rel.length, ← rel'.length]; exact hz, fun h' k1 k2 hs => ?_⟩
    have hh : ∃ q, h'.get? a = some q := let ⟨q, _, _, hq, _⟩ := k1; ⟨q, hq⟩
    exact ⟨.non, _, d_write (t' := s2.toks) I2 (by rw [h1]; exact True.intro) hs hh (dk_new (Nat.le_trans (length_mergeK more kvs) hz) hd (KV.merge rel' rel) k1), rfl, q2⟩)⟩
def isC (n : Nat) : D → Bool
  | .cell m => m == n
  | _ => false
def updM (d e : D) : M D := fun s => match d, dctR s e with
  | .cell n, some more => match s.vh[n]? with
    | some (.dct kvs) => if (!isC n e && lenOk (kvs.length + more.length)) = true then .ok .non ⟨s.loc, s.vh.set n (.dct (mergeA kvs more))⟩ else .bad
    | _ => .bad
  | _, _ => .bad
def updE (fo fe : M D) : M D := onD fo fun d => bnd fe fun e => updM d e
section
variable {o e : Expr} {fo fe : M D} {apos cpos : Pos}
theorem de_upd (ho : DE X W o fo) (he : DE X W e fe) (hbase : attributeBase o "update" X.env (eval o X.env) = eval o X.env := by rfl)
    (hfew : ((backTo cpos (starEach [e] X.env)).all (fun x => !x.1) && (backToKw cpos (keywordEach [] X.env)).all (fun x => x.1.isSome)
      && decide (([e] : List Expr).length + ([] : List Keyword).length + (if ([] : List Keyword).isEmpty then 0 else 1) < 30)) = true := by rfl)
    (hline : (apos.endLine == cpos.line) = true := by rfl) (htrees : backTo cpos (starEach [e] X.env) = [(false, eval e X.env)] := by rfl) : DE X W (.Call (.Attribute o "update" apos) [e] [] cpos) (updE fo fe) := by
  obtain ⟨t, p, r⟩ := ho
  obtain ⟨u, q, h⟩ := he
  refine ⟨_, pe_upd p q ⟨hbase, hfew, hline, htrees⟩, fun w H σ s Q R z => ?_⟩
  refine onD_fol r R z fun d s1 w1 H1 a l1 R1 r1 hd p1 => ⟨a, rfl, hd, ?_⟩
  refine h.bnd R1 p1 fun e s2 w2 H2 v2 l2 R2 r2 p2 => ?_
  unfold updM at p2
  split at p2
  · next n more hm =>
    split at p2
    · next kvs hn =>
      split at p2
      · next hc =>
        rw [Bool.and_eq_true, Bool.not_eq_true'] at hc
        obtain ⟨a', us, e1, h0, h1, h2⟩ := R2.dictW (Rep.up l2 r1) rfl hn
        cases e1
        obtain ⟨b, us2, e2, h3, h4⟩ := R2.dictR r2 hm
        subst e2
        refine ⟨b, us, us2, rfl, fun z => ?_, h1, h3, ?_, p2 w2 _ _ (Le.write (List.mem_of_getElem? h0)) (R2.setCell h0 ⟨_, upd_same, RepK.merge h4 h2⟩) .non⟩
        · subst z
          cases r2 with
          | @cell _ m h5 =>
            have n1 := (List.getElem?_eq_some_iff.mp h0).1
            have n2 := (List.getElem?_eq_some_iff.mp h5).1
            have := (List.getElem_inj (xs := w2.ρ) (h₀ := n1) (h₁ := n2) R2.nd).mp (by rw [(List.getElem?_eq_some_iff.mp h0).2, (List.getElem?_eq_some_iff.mp h5).2])
            subst this
            have := hc.1
            rw [show isC n (.cell n) = true from beq_self_eq_true n] at this
            cases this
          | tup _ _ => simp [dctR] at hm
          | lst _ _ => simp [dctR] at hm
          | ref _ => simp [dctR] at hm
          | pr _ _ _ => simp [dctR] at hm
          | emp _ => simp [dctR] at hm
        · rw [RepK.length h2, RepK.length h4]
          exact of_decide_eq_true hc.2
      · exact p2.elim
    · exact p2.elim
  · exact p2.elim
end
/-! ### for v in d.values(), for k, v in d.items() -/
def valsI (d : D) : M Wk := fun s => match d with
  | .cell n => match s.vh[n]? with
    | some (.dctL o us kvs) => .ok ⟨kvs.map fun kv => kv.2, fun s' => s'.vh[n]? = some (.dctL o us kvs)⟩ s
    | _ => .bad
  | _ => .bad
def itemsI (d : D) : M Wk := fun s => match d with
  | .cell n => match s.vh[n]? with
    | some (.dctL o us kvs) => .ok ⟨kvs.map fun kv => .pr (dK kv.1) kv.2, fun s' => s'.vh[n]? = some (.dctL o us kvs)⟩ s
    | _ => .bad
  | _ => .bad
theorem RepK.at2 {K : PySem.W.Frag} {w : Wd} {us : List (Key × V)} {kvs : List (Key × D)} (h : RepK K w us kvs) : ∀ {i : Nat} {k : Key} {d : D}, kvs[i]? = some (k, d) → ∃ v, us[i]? = some (k, v) ∧ Rep K w v d := by
  induction h with
  | nil => intro i k d h; simp at h
  | cons r t ih =>
    intro i k d h
    cases i with
    | zero => cases h; exact ⟨_, rfl, r⟩
    | succ i => exact ih h
theorem pI_vals {K : PySem.W.Frag} {w0 : Wd} {a : Addr} {n : Nat} {o : Obj} {us : List (Key × V)} {kvs : List (Key × D)} (r : w0.ρ[n]? = some a) : wkI K w0 (Itd a o us) ⟨kvs.map fun kv => kv.2, fun s' => s'.vh[n]? = some (.dctL o us kvs)⟩ := by
  intro w H σ s l R hok i
  obtain ⟨h1, h2⟩ := R.cells n a _ (l.1 _ _ r) hok
  have hl := RepK.length h2
  refine ⟨fun hi => ⟨h1, by rw [List.length_map] at hi; omega⟩, fun hi => ⟨h1, by rw [List.length_map] at hi; omega⟩, fun x H' hy d hd => ?_⟩
  obtain ⟨rfl, k, hu⟩ := hy
  rw [List.getElem?_map] at hd
  cases e : kvs[i]? with
  | none => rw [e] at hd; cases hd
  | some kv =>
    rw [e] at hd
    cases hd
    obtain ⟨v, h3, h4⟩ := h2.at2 (k := kv.1) (d := kv.2) e
    rw [hu] at h3
    cases h3
    exact ⟨w, Le.refl _ _, R, h4⟩
theorem pI_items {K : PySem.W.Frag} {w0 : Wd} {a : Addr} {n : Nat} {o : Obj} {us : List (Key × V)} {kvs : List (Key × D)} (r : w0.ρ[n]? = some a) : wkI K w0 (Iti a o us) ⟨kvs.map fun kv => .pr (dK kv.1) kv.2, fun s' => s'.vh[n]? = some (.dctL o us kvs)⟩ := by
  intro w H σ s l R hok i
  obtain ⟨h1, h2⟩ := R.cells n a _ (l.1 _ _ r) hok
  have hl := RepK.length h2
  refine ⟨fun hi => ⟨h1, by rw [List.length_map] at hi; omega⟩, fun hi => ⟨h1, by rw [List.length_map] at hi; omega⟩, fun x H' hy d hd => ?_⟩
  obtain ⟨T, k, v, hu, rfl, hn, rfl⟩ := hy
  rw [List.getElem?_map] at hd
  cases e : kvs[i]? with
  | none => rw [e] at hd; cases hd
  | some kv =>
    rw [e] at hd
    cases hd
    obtain ⟨v', h3, h4⟩ := h2.at2 (k := kv.1) (d := kv.2) e
    rw [hu] at h3
    cases h3
    obtain ⟨l2, R2, r2⟩ := R.newP hn (rep_key kv.1) h4
    exact ⟨_, l2, R2, r2⟩
theorem di_vals {tg e : Expr} {f : M D} {apos cpos : Pos} (h : DE X W e f) (hbase : attributeBase e "values" X.env (eval e X.env) = eval e X.env := by rfl) (hline : (apos.endLine == cpos.line) = true := by rfl) : DI X W tg (.Call (.Attribute e "values" apos) [] [] cpos) (bnd f valsI) := by
  obtain ⟨t, p, r⟩ := h
  refine ⟨_, pi_values p hbase hline, fun w H σ s R0 R z => ?_⟩
  refine r.bnd R z fun d s1 w1 H1 v l1 R1 r1 p1 => ?_
  unfold valsI at p1
  split at p1
  · next n =>
    split at p1
    · next o us kvs hvh =>
      cases r1 with
      | @cell a n hr =>
        obtain ⟨h1, h2⟩ := R1.cells n a _ hr hvh
        exact ⟨a, o, us, rfl, h1, p1 w1 H1 _ (Le.refl _ _) R1 (pI_vals hr)⟩
    · exact p1.elim
  · exact p1.elim
theorem di_items {es : List Expr} {kk : Nat} {tpos : Pos} {e : Expr} {f : M D} {apos cpos : Pos} (h : DE X W e f) (hbase : attributeBase e "items" X.env (eval e X.env) = eval e X.env := by rfl) (hline : (apos.endLine == cpos.line) = true := by rfl) : DI X W (.Tuple es kk tpos) (.Call (.Attribute e "items" apos) [] [] cpos) (bnd f itemsI) := by
  obtain ⟨t, p, r⟩ := h
  refine ⟨_, pi_items p hbase hline, fun w H σ s R0 R z => ?_⟩
  refine r.bnd R z fun d s1 w1 H1 v l1 R1 r1 p1 => ?_
  unfold itemsI at p1
  split at p1
  · next n =>
    split at p1
    · next o us kvs hvh =>
      cases r1 with
      | @cell a n hr =>
        obtain ⟨h1, h2⟩ := R1.cells n a _ hr hvh
        exact ⟨a, o, us, rfl, h1, p1 w1 H1 _ (Le.refl _ _) R1 (pI_items hr)⟩
    · exact p1.elim
  · exact p1.elim
/-! ### equations -/
theorem dctR_at {s : S} {n : Nat} {kvs : List (Key × D)} (h : s.vh[n]? = some (.dct kvs)) : dctR s (.cell n) = some kvs := by
  unfold dctR
  dsimp only
  rw [h]
section
variable {fo fk fx fe : M D} {s : S}
theorem x_onD {F : D → M D} : onD fo F s = (fo s).then' fun d s => if (dctR s d).isSome = true then F d s else .bad := nr rfl
theorem x_getE1 : getE1 fo fk s = onD fo (fun d => bnd fk fun e => getM d e .non) s := nr rfl
theorem x_getE2 : getE2 fo fk fx s = onD fo (fun d => bnd fk fun e => bnd fx fun x => getM d e x) s := nr rfl
theorem x_popE1 : popE1 fo fk s = onD fo (fun d => bnd fk fun e => popDM d e none) s := nr rfl
theorem x_popE2 : popE2 fo fk fx s = onD fo (fun d => bnd fk fun e => bnd fx fun x => popDM d e (some x)) s := nr rfl
theorem x_updE : updE fo fe s = onD fo (fun d => bnd fe fun e => updM d e) s := nr rfl
theorem keyD_int {i : Int} : keyD (.int i) = some (.inl i) := rfl
theorem keyD_str {x : Str} : keyD (.str x) = some (.inr x) := rfl
theorem x_getM {n : Nat} {e x : D} {kvs : List (Key × D)} {k : Key} (h : s.vh[n]? = some (.dct kvs)) (hk : keyD e = some k) : getM (.cell n) e x s = .ok ((valA kvs k).getD x) s := by
  unfold getM
  rw [dctR_at h, hk]
theorem x_popM {n : Nat} {e v : D} {xo : Option D} {kvs : List (Key × D)} {k : Key} (h : s.vh[n]? = some (.dct kvs)) (hk : keyD e = some k) (hv : valA kvs k = some v) : popDM (.cell n) e xo s = .ok v ⟨s.loc, s.vh.set n (.dct (dropA kvs k))⟩ := by
  unfold popDM
  rw [hk]
  dsimp only
  rw [h]
  dsimp only
  rw [hv]
theorem x_popN {n : Nat} {e x : D} {kvs : List (Key × D)} {k : Key} (h : s.vh[n]? = some (.dct kvs)) (hk : keyD e = some k) (hv : valA kvs k = none) : popDM (.cell n) e (some x) s = .ok x s := by
  unfold popDM
  rw [hk]
  dsimp only
  rw [h]
  dsimp only
  rw [hv]
theorem x_updM {n m : Nat} {kvs more : List (Key × D)} (h : s.vh[n]? = some (.dct kvs)) (h2 : s.vh[m]? = some (.dct more)) (hn : m ≠ n) (hl : kvs.length + more.length ≤ 16777216) : updM (.cell n) (.cell m) s = .ok .non ⟨s.loc, s.vh.set n (.dct (mergeA kvs more))⟩ := by
  unfold updM
  rw [dctR_at h2]
  dsimp only
  rw [h]
  dsimp only
  rw [if_pos (by rw [lenOk_of hl, show isC n (.cell m) = false from beq_eq_false_iff_ne.mpr hn]; rfl)]
theorem onD_at {n : Nat} {F : D → M D} {kvs : List (Key × D)} {s1 : S} (h0 : fo s = .ok (.cell n) s1) (h : s1.vh[n]? = some (.dct kvs)) : onD fo F s = F (.cell n) s1 := by
  unfold onD bnd
  rw [h0]
  dsimp only
  rw [dctR_at h]
  rfl
theorem x_dictD {n : Nat} {kvs : List (Key × D)} (h : s.vh[n]? = some (.dct kvs)) : dictN [.cell n] s = .ok (.dct kvs) s := by
  unfold dictN
  dsimp only
  rw [dctR_at h]
theorem x_dictT {ds : List D} {kvs : List (Key × D)} (h : pairsD ds = some kvs) : dictN [.tup ds] s = .ok (.dct (mergeA [] kvs)) s := by
  unfold dictN
  dsimp only
  rw [show dctR s (.tup ds) = none from rfl]
  dsimp only
  rw [h]
theorem x_dictL {ds : List D} {kvs : List (Key × D)} (h : pairsD ds = some kvs) : dictN [.lst ds] s = .ok (.dct (mergeA [] kvs)) s := by
  unfold dictN
  dsimp only
  rw [show dctR s (.lst ds) = none from rfl]
  dsimp only
  rw [show lstOf s (.lst ds) = some ds from rfl]
  dsimp only
  rw [h]
theorem x_listD {n : Nat} {kvs : List (Key × D)} (h : s.vh[n]? = some (.dct kvs)) : listDN [.cell n] s = .ok (.lst (kvs.map fun kv => dK kv.1)) s := by
  unfold listDN
  dsimp only
  rw [dctR_at h]
theorem x_revT {ds : List D} : revI (.tup ds) s = .ok ⟨ds.reverse, fun _ => True⟩ s := nr rfl
theorem x_revL {ds : List D} : revI (.lst ds) s = .ok ⟨ds.reverse, fun _ => True⟩ s := by
  have h : (fun s' : S => lstOf s' (.lst ds) = some ds) = fun _ => True := funext fun s' => propext ⟨fun _ => trivial, fun _ => rfl⟩
  show Res.ok (Wk.mk _ (fun s' : S => lstOf s' (.lst ds) = some ds)) s = _
  rw [h]
theorem x_revC {n : Nat} {ds : List D} (h : s.vh[n]? = some (.lst ds)) : revI (.cell n) s = .ok ⟨ds.reverse, fun s' => lstOf s' (.cell n) = some ds⟩ s := by
  unfold revI
  dsimp only
  rw [show lstOf s (.cell n) = some ds by unfold lstOf; dsimp only; rw [h]]
theorem x_valsI {n : Nat} {o : Obj} {us : List (Key × V)} {kvs : List (Key × D)} (h : s.vh[n]? = some (.dctL o us kvs)) : valsI (.cell n) s = .ok ⟨kvs.map fun kv => kv.2, fun s' => s'.vh[n]? = some (.dctL o us kvs)⟩ s := by
  unfold valsI
  dsimp only
  rw [h]
theorem x_itemsI {n : Nat} {o : Obj} {us : List (Key × V)} {kvs : List (Key × D)} (h : s.vh[n]? = some (.dctL o us kvs)) : itemsI (.cell n) s = .ok ⟨kvs.map fun kv => .pr (dK kv.1) kv.2, fun s' => s'.vh[n]? = some (.dctL o us kvs)⟩ s := by
  unfold itemsI
  dsimp only
  rw [h]
theorem x_unpP {i j : Nat} {a b : D} : unp2 i j (.pr a b) s = .ok .nx ⟨(s.loc.set i (some a)).set j (some b), s.vh⟩ := nr rfl
end
/-! ### methods that ask themselves -/
section
variable {P : Program} {wd : World} {K : PySem.W.Frag} {mg : Str → Option Value} {base : Heap} {x m q : Str} {st : Stmt} {ps : List Str} {k : Nat}
theorem TopM.nilP (T : TopM K x m q st ps) : Met P wd K mg base x m k (SpP K ps.length fun _ _ => none) :=
  let ⟨C, f, fd, a, F, M, b⟩ := T.ex
  ⟨C, f, fd, ps, a, M, b, fun _ _ _ _ h => h.1, fun _ _ _ _ _ _ _ _ _ _ _ _ _ h => by obtain ⟨_, _, _, _, _, _, _, _, e, _⟩ := h; cases e⟩
theorem TopM.nilN (T : TopM K x m q st ps) : Met P wd K mg base x m k (SpN K ps.length fun _ _ => none) :=
  let ⟨C, f, fd, a, F, M, b⟩ := T.ex
  ⟨C, f, fd, ps, a, M, b, fun _ _ _ _ h => h.1, fun _ _ _ _ _ _ _ _ _ _ _ _ _ h => by obtain ⟨_, _, _, _, _, _, _, _, e, _⟩ := h; cases e⟩
end
/-! ### isinstance(x, (T, U)), own classes -/
section
variable {X : Cx} {W : WX}
theorem de_iso2 {x T U : Str} {b1 b2 b : Bool} {e : Expr} {f : M D} {p pa pb tpos pos : Pos} {kk : Nat} (hc : ClsP X.K x) (I : IsoP X.K X.mg x T b1) (J : IsoP X.K X.mg x U b2) (hi : X.mg "isinstance" = none) (h : DE X W e f) (hb : (b1 || b2) = b := by rfl) (hg : Gl X "isinstance" := by rfl) (hgA : Gl X T := by rfl) (hgB : Gl X U := by rfl)
    (hdA : (T == ("__debug__" : Str)) = false := by decide) (hdB : (U == ("__debug__" : Str)) = false := by decide)
    (hst : starEach [e, .Tuple [.Name T pa, .Name U pb] kk tpos] X.env = (false, eval e X.env) :: starEach [.Tuple [.Name T pa, .Name U pb] kk tpos] X.env := by rfl)
    (hst2 : starEach [.Tuple [.Name T pa, .Name U pb] kk tpos] X.env = (false, eval (.Tuple [.Name T pa, .Name U pb] kk tpos) X.env) :: starEach [] X.env := by rfl)
    (hst3 : starEach [.Name T pa, .Name U pb] X.env = (false, eval (.Name T pa) X.env) :: starEach [.Name U pb] X.env := by rfl) (hst4 : starEach [.Name U pb] X.env = (false, eval (.Name U pb) X.env) :: starEach [] X.env := by rfl)
    (hpl : (backTo pos (starEach [.Tuple [.Name T pa, .Name U pb] kk tpos] X.env)).any (·.1) = false := by rfl) :
    DE X W (.Call (.Name "isinstance" p) [e, .Tuple [.Name T pa, .Name U pb] kk tpos] [] pos) (bnd f (isoM x b)) := by
  subst hb
  obtain ⟨C, CT, hC, hm, k1, k2, k3, k4, k5⟩ := I.ex
  obtain ⟨C', CU, hC', hm', _, _, _, _, k5'⟩ := J.ex
  cases hC.eq hC'
  obtain ⟨t, q, k⟩ := h
  refine ⟨_, pe_callB call_isiT hg hi (by decide +kernel) (pa_cons q (pa_cons (pe_tup (pa_cons (pe_glob (v := .ref CT) hgA hm rfl hdA) (pa_cons (pe_glob (v := .ref CU) hgB hm' rfl hdB) pa_nil hst4) hst3)) pa_nil hst2) hst) (by decide) (by decide) hst hpl, fun w H σ s Q R z => ?_⟩
  refine k.bnd R z fun d s1 w1 H1 v l1 R1 r1 p1 => ?_
  unfold isoM at p1
  cases ho : objOf s1 x d with
  | none => rw [ho] at p1; exact p1.elim
  | some gs =>
    rw [ho] at p1
    obtain ⟨n, a, C', dx, vs, e0, e1, h1, h2, h3, h4, h5⟩ := R1.obj r1 ho
    cases hC.eq h3
    have kkk : PySem.W.kitAny X.K (.ref C) [.ref CT, .ref CU] = some (b1 || b2) := by
      unfold PySem.W.kitAny
      rw [k5]
      cases b1 with
      | true => rfl
      | false =>
        dsimp only
        unfold PySem.W.kitAny
        rw [k5']
        cases b2 <;> rfl
    refine ⟨by show 2 ≤ sizeLine; decide, fun tp htp => ?_⟩
    have R2 : RS X.K w1 (upd H1 tp (.tup [.ref CT, .ref CU])) σ s1 := R1.laid htp
    have h4' : (upd H1 tp (.tup [.ref CT, .ref CU])) a = some (.ins C dx vs) := by rw [upd_ne (ne_of_none h4 htp)]; exact h4
    refine ⟨v, tp, [.ref CT, .ref CU], .ref C, [.ref CT, .ref CU], b1 || b2, rfl, upd_same, .cons (.own CT) (.cons (.own CU) .nil), by rw [e1]; exact .base (.ins h4' (hc C hC) k1 k2 k3 k4), kkk, ?_⟩
    exact p1 w1 _ _ (Le.laid htp) R2 (Rep.bl _)
end
/-! ### the least of a list of ints -/
section
variable {X : Cx} {W : WX}
def minZ : List Int → Int
  | [] => 0
  | [a] => a
  | a :: b :: r => min a (minZ (b :: r))
theorem minZ_in : ∀ {ns : List Int}, ns ≠ [] → minZ ns ∈ ns ∧ ∀ y ∈ ns, minZ ns ≤ y
  | [a], _ => by simp [minZ]
  | a :: b :: r, _ => by
    obtain ⟨h1, h2⟩ := minZ_in (ns := b :: r) (by simp)
    have e : minZ (a :: b :: r) = min a (minZ (b :: r)) := rfl
    rw [e]
    refine ⟨?_, fun y hy => ?_⟩
    · rcases Int.le_total a (minZ (b :: r)) with h | h
      · rw [Int.min_eq_left h]; exact List.mem_cons_self
      · rw [Int.min_eq_right h]; exact List.mem_cons_of_mem _ h1
    · rcases List.mem_cons.mp hy with q | q
      · rw [q]; exact Int.min_le_left _ _
      · exact Int.le_trans (Int.min_le_right _ _) (h2 y q)
theorem minZ_eq {ns : List Int} {m : Int} (h : m ∈ ns) (k : ∀ y ∈ ns, m ≤ y) : m = minZ ns := by
  have hn : ns ≠ [] := fun z => by rw [z] at h; cases h
  obtain ⟨h1, h2⟩ := minZ_in hn
  have := k _ h1
  have := h2 _ h
  omega
def minlM : List D → M D
  | [d] => fun s => match lstOf s d with
    | some ds => match intsOf ds with
      | some ns => if ns = [] then .bad else .ok (.int (minZ ns)) s
      | none => .bad
    | none => .bad
  | _ => fail
theorem rc_minl : RCal X (rMin X.K) minlM := by
  intro W w H σ s vs ds Q R r p
  unfold minlM at p
  split at p
  · next d =>
    obtain ⟨v, rfl, rv⟩ := one_of r
    split at p
    · next es he =>
      split at p
      · next ns hn =>
        split at p
        · exact p.elim
        · next hne =>
          obtain ⟨a, us, rfl, h1, h2⟩ := R.list rv he
          rw [ints_rep' h2 hn] at h1
          refine ⟨a, ns, rfl, h1, List.length_pos_iff.mpr hne, fun m hm hk => ?_⟩
          rw [minZ_eq hm hk]
          exact Post.here p R (Rep.int _)
      · exact p.elim
    · exact p.elim
  · exact p.elim
theorem de_minl {e : Expr} {fs : M (List D)} {p pos : Pos} (hm : X.mg "min" = none) (ha : DA X W [e] fs) (hc : X.calm = true := by rfl) (hg : Gl X "min" := by rfl) (he : starEach [e] X.env = (false, eval e X.env) :: starEach [] X.env := by rfl) (hpl : (backTo pos (starEach [] X.env)).any (·.1) = false := by rfl) :
    DE X W (.Call (.Name "min" p) [e] [] pos) (bnd fs minlM) := de_callB (cr_min hc) rc_minl hm ha (by decide +kernel) hg (by decide) (by decide) he hpl
theorem x_minl {ns : List Int} {s : S} (h : ns ≠ []) : minlM [.lst (ns.map D.int)] s = .ok (.int (minZ ns)) s := by
  unfold minlM lstOf
  dsimp only
  rw [intsOf_map]
  dsimp only
  rw [if_neg h]
end
end Fx

/-! Fx: defs that may raise -/
namespace Fx
open PySem PySem.Spec PyProof.Rows L2
inductive Rz where
  | ok (d : D) (vh : List Cell)
  | exc (e : Ex) (vh : List Cell)
  | bad
abbrev Xf := List D → List Cell → Rz
/-- what a raise of e asks, where W' is wished of the exceptions as they stand in the heap -/
def LW (K : PySem.W.Frag) (mg : Str → Option Value) (W' : L2.WX) : WX := fun e w H σ => ∀ C, mg e.cls = some (.ref C) →
  (e.fs = [] → W' (.ref C) none σ H) ∧ (e.fs ≠ [] → ∀ d vs, H d = none → RepF K w vs e.fs → W' (.ref C) (some d) σ (upd H d (.xd vs)))
/-- the same, whatever the slots -/
def LE (K : PySem.W.Frag) (mg : Str → Option Value) (E : XK) : WX := LW K mg fun c d _ H => E c d H
def SpX (K : PySem.W.Frag) (mg : Str → Option Value) (n : Nat) (F : Xf) : Sp := fun vs H Q E => vs.length = n ∧ ∃ w σ s ds, RS K w H σ s ∧ RepL K w vs ds ∧ match F ds s.vh with
  | .ok d vh => ∀ w' H' v, Le w H w' H' → RS K w' H' σ ⟨s.loc, vh⟩ → Rep K w' v d → Q v H'
  | .exc e vh => ∀ w' H', Le w H w' H' → RS K w' H' σ ⟨s.loc, vh⟩ → LE K mg E e w' H' σ
  | .bad => False
noncomputable def runXS (n : Nat) (g : M Out) : Xf := fun ds vh => match g (initS n ds vh) with
  | .ok (.rt d) s => .ok d s.vh
  | .ok .nx s => .ok .non s.vh
  | .exc e s => .exc e s.vh
  | _ => .bad
def okP (o : Option D) (vh : List Cell) : Rz := match o with
  | some d => .ok d vh
  | none => .bad
open Classical in
noncomputable def runXP (n : Nat) (g : M Out) : Xf := fun ds vh => match g (initS n ds vh) with
  | .ok (.rt d) s => okP (fin vh s d) vh
  | .ok .nx s => okP (fin vh s .non) vh
  | .exc e s => if s.vh.take vh.length = vh ∧ (e.fs.all fun kv => nc vh.length kv.2) = true then .exc e vh else .bad
  | _ => .bad
def okW (o : Option (D × List Cell)) : Rz := match o with
  | some (d, vh) => .ok d vh
  | none => .bad
noncomputable def runXW (n : Nat) (g : M Out) : Xf := fun ds vh => match g (initS n ds vh) with
  | .ok (.rt d) s => okW (finW vh.length s d)
  | .ok .nx s => okW (finW vh.length s .non)
  | .exc e s => match finW vh.length s .non with
    | some (_, vh') => if (e.fs.all fun kv => nc vh.length kv.2) = true then .exc e vh' else .bad
    | none => .bad
  | _ => .bad
section
variable {P : Program} {wd : World} {K : PySem.W.Frag} {mg : Str → Option Value} {base : Heap} {x qual : Str} {st : Stmt} {f : Addr} {fd : FuncData} {N ps : List Str} {k : Nat} {g : M Out}
theorem fnX_S (F : Fun K x qual st f fd) (Sc : FnScope N ps (defScope st)) (hle : ps.length ≤ N.length)
    (body : ∀ (cdv : Value) (A : Around) (outer : List Env) (s : Shared) (H : Hp) (E : XK), Room k (A.deeper (envOfC qual (defScope st) s.heap.objs.size f cdv)) →
      DSs (cxOf (L2.CX P wd) P wd K mg base N qual (defScope st) f cdv A outer s H E) (LE K mg E) (defBody st) g) : FnOk P wd K mg base (L2.CX P wd) (k + 1) f fd ps (SpX K mg ps.length (runXS N.length g)) := by
  refine F.okX Sc (fun vs H Q E h => h.1) fun cdv A outer s H vs Q E hr h => ?_
  obtain ⟨t, p, r⟩ := body cdv A outer s H E hr
  obtain ⟨hl, w, σ, z, ds, R, rv, m⟩ := h
  refine ⟨t, p, r w H _ (initS N.length ds z.vh) _ (start_ok (ps := ps) R rv) ?_⟩
  show PostS K (LE K mg E) w H (g (initS N.length ds z.vh)) _
  unfold runXS at m
  have back : ∀ {s1 : S} {w' H' σ'}, Le w H w' H' → RS K w' H' σ' s1 → RS K w' H' σ ⟨z.loc, s1.vh⟩ := fun {s1 w' H' σ'} l R' => R'.other (l := z.loc) R.len fun i d hi => by
    obtain ⟨v, h1, h2⟩ := R.loc i d hi
    exact ⟨v, h1, Rep.up l h2⟩
  cases hg : g (initS N.length ds z.vh) with
  | bad => rw [hg] at m; exact m.elim
  | exc e s1 => rw [hg] at m; exact fun w' H' σ' l R' => m w' H' l (back l R')
  | ok o s1 =>
    rw [hg] at m
    cases o with
    | brk => exact m.elim
    | cnt => exact m.elim
    | rt d0 => exact fun w' H' σ' v l R' rv => m w' H' v l (back l R') rv
    | nx => exact fun w' H' σ' l R' => m w' H' .non l (back l R') .non
theorem nc_fields {b : Nat} {w : Wd} {H : Hp} : ∀ {vs : List (Str × V)} {ds : List (Str × D)}, RepF K w vs ds → (ds.all fun kv => nc b kv.2) = true → RepF K (w.fall b H) vs ds
  | _, _, .nil, _ => .nil
  | _, _, .cons h t, c => by
    rw [List.all_cons, Bool.and_eq_true] at c
    exact .cons (nc_rep h c.1) (nc_fields t c.2)
theorem cut_fields {b : Nat} {w : Wd} : ∀ {vs : List (Str × V)} {ds : List (Str × D)}, RepF K w vs ds → (ds.all fun kv => nc b kv.2) = true → RepF K (w.cut b) vs ds := fun h c => cut_repF h c
theorem fnX_P (F : Fun K x qual st f fd) (Sc : FnScope N ps (defScope st)) (hle : ps.length ≤ N.length)
    (body : ∀ (cdv : Value) (A : Around) (outer : List Env) (s : Shared) (H : Hp) (E : XK), Room k (A.deeper (envOfC qual (defScope st) s.heap.objs.size f cdv)) →
      DSs (cxOf (L2.CX P wd) P wd K mg base N qual (defScope st) f cdv A outer s H E) (LE K mg E) (defBody st) g) : FnOk P wd K mg base (L2.CX P wd) (k + 1) f fd ps (SpX K mg ps.length (runXP N.length g)) := by
  refine F.okX Sc (fun vs H Q E h => h.1) fun cdv A outer s H vs Q E hr h => ?_
  obtain ⟨t, p, r⟩ := body cdv A outer s H E hr
  obtain ⟨hl, w, σ, z, ds, R, rv, m⟩ := h
  refine ⟨t, p, r w H _ (initS N.length ds z.vh) _ (start_ok (ps := ps) R rv) ?_⟩
  show PostS K (LE K mg E) w H (g (initS N.length ds z.vh)) _
  unfold runXP at m
  have fin_ok : ∀ {d0 : D} {s1 : S}, (match okP (fin z.vh s1 d0) z.vh with
      | .ok d vh => ∀ w' H' v, Le w H w' H' → RS K w' H' σ ⟨z.loc, vh⟩ → Rep K w' v d → Q v H'
      | .exc e vh => ∀ w' H', Le w H w' H' → RS K w' H' σ ⟨z.loc, vh⟩ → LE K mg E e w' H' σ
      | .bad => False) → ∀ w' H' σ' v, Le w H w' H' → RS K w' H' σ' s1 → Rep K w' v d0 → Q v H' := fun {d0 s1} e w' H' σ' v l R' rv => by
    cases hf : fin z.vh s1 d0 with
    | none => rw [hf] at e; exact e.elim
    | some d =>
      rw [hf] at e
      unfold fin at hf
      split at hf
      · next hp =>
        obtain ⟨l2, R2⟩ := RS.back R l R' hp rfl
        exact e _ _ _ l2 R2 (thaw_rep R' 8 rv hf)
      · cases hf
  cases hg : g (initS N.length ds z.vh) with
  | bad => rw [hg] at m; exact m.elim
  | exc e s1 =>
    rw [hg] at m
    dsimp only at m
    intro w' H' σ' l R'
    by_cases hp : s1.vh.take z.vh.length = z.vh ∧ (e.fs.all fun kv => nc z.vh.length kv.2) = true
    · rw [if_pos hp] at m
      obtain ⟨h1, h2⟩ := hp
      obtain ⟨l2, R2⟩ := RS.back R l R' h1 rfl
      have := m _ _ l2 R2
      intro C hC
      exact ⟨(this C hC).1, fun hne d vs hd rf => (this C hC).2 hne d vs hd (nc_fields rf h2)⟩
    · rw [if_neg hp] at m; exact m.elim
  | ok o s1 =>
    rw [hg] at m
    cases o with
    | brk => exact m.elim
    | cnt => exact m.elim
    | rt d0 => exact fun w' H' σ' v l R' rv => fin_ok m w' H' σ' v l R' rv
    | nx => exact fun w' H' σ' l R' => fin_ok m w' H' σ' .non l R' .non
theorem fnX_W (F : Fun K x qual st f fd) (Sc : FnScope N ps (defScope st)) (hle : ps.length ≤ N.length)
    (body : ∀ (cdv : Value) (A : Around) (outer : List Env) (s : Shared) (H : Hp) (E : XK), Room k (A.deeper (envOfC qual (defScope st) s.heap.objs.size f cdv)) →
      DSs (cxOf (L2.CX P wd) P wd K mg base N qual (defScope st) f cdv A outer s H E) (LE K mg E) (defBody st) g) : FnOk P wd K mg base (L2.CX P wd) (k + 1) f fd ps (SpX K mg ps.length (runXW N.length g)) := by
  refine F.okX Sc (fun vs H Q E h => h.1) fun cdv A outer s H vs Q E hr h => ?_
  obtain ⟨t, p, r⟩ := body cdv A outer s H E hr
  obtain ⟨hl, w, σ, z, ds, R, rv, m⟩ := h
  refine ⟨t, p, r w H _ (initS N.length ds z.vh) _ (start_ok (ps := ps) R rv) ?_⟩
  show PostS K (LE K mg E) w H (g (initS N.length ds z.vh)) _
  unfold runXW at m
  have cut : ∀ {d0 : D} {s1 : S} {d : D} {vh : List Cell}, finW z.vh.length s1 d0 = some (d, vh) → ∀ w' H' σ', Le w H w' H' → RS K w' H' σ' s1 → (∀ v, Rep K w' v d0 → Rep K (w'.cut z.vh.length) v d) ∧ Le w H (w'.cut z.vh.length) H' ∧ RS K (w'.cut z.vh.length) H' σ ⟨z.loc, vh⟩ := fun {d0 s1 d vh} e w' H' σ' l R' => by
    unfold finW at e
    split at e
    · next h1 =>
      split at e
      · next h2 =>
        split at e
        · next h3 =>
          cases e
          rw [List.all_eq_true] at h2
          obtain ⟨l2, R2⟩ := RS.cut R l R' rfl h1 h2
          exact ⟨fun v rv => cut_rep rv h3, l2, R2⟩
        · cases e
      · cases e
    · cases e
  have fin_ok : ∀ {d0 : D} {s1 : S}, (match okW (finW z.vh.length s1 d0) with
      | .ok d vh => ∀ w' H' v, Le w H w' H' → RS K w' H' σ ⟨z.loc, vh⟩ → Rep K w' v d → Q v H'
      | .exc e vh => ∀ w' H', Le w H w' H' → RS K w' H' σ ⟨z.loc, vh⟩ → LE K mg E e w' H' σ
      | .bad => False) → ∀ w' H' σ' v, Le w H w' H' → RS K w' H' σ' s1 → Rep K w' v d0 → Q v H' := fun {d0 s1} e w' H' σ' v l R' rv => by
    cases hf : finW z.vh.length s1 d0 with
    | none => rw [hf] at e; exact e.elim
    | some p =>
      obtain ⟨d, vh⟩ := p
      rw [hf] at e
      obtain ⟨a, b, c⟩ := cut hf w' H' σ' l R'
      exact e _ _ _ b c (a v rv)
  cases hg : g (initS N.length ds z.vh) with
  | bad => rw [hg] at m; exact m.elim
  | exc e s1 =>
    rw [hg] at m
    dsimp only at m
    intro w' H' σ' l R'
    cases hf : finW z.vh.length s1 .non with
    | none => rw [hf] at m; exact m.elim
    | some p =>
      obtain ⟨d, vh⟩ := p
      rw [hf] at m
      dsimp only at m
      by_cases h2 : (e.fs.all fun kv => nc z.vh.length kv.2) = true
      · rw [if_pos h2] at m
        obtain ⟨a, b, c⟩ := cut hf w' H' σ' l R'
        have := m _ _ b c
        intro C hC
        exact ⟨(this C hC).1, fun hne d vs hd rf => (this C hC).2 hne d vs hd (cut_fields rf h2)⟩
      · rw [if_neg h2] at m; exact m.elim
  | ok o s1 =>
    rw [hg] at m
    cases o with
    | brk => exact m.elim
    | cnt => exact m.elim
    | rt d0 => exact fun w' H' σ' v l R' rv => fin_ok m w' H' σ' v l R' rv
    | nx => exact fun w' H' σ' l R' => fin_ok m w' H' σ' .non l R' .non
end
/-! ### calls of such defs -/
structure FnX (P : Program) (wd : World) (K : PySem.W.Frag) (mg : Str → Option Value) (base : Heap) (x : Str) (n k : Nat) (F : Xf) : Prop where
  ex : ∃ (f : Addr) (fd : FuncData) (ps : List Str), mg x = some (.ref f) ∧ PySem.W.keepIn K (.ref f) = true ∧ Binds K fd ps [] ∧ FnOk P wd K mg base (L2.CX P wd) k f fd ps (SpX K mg n F)
structure MetX (P : Program) (wd : World) (K : PySem.W.Frag) (mg : Str → Option Value) (base : Heap) (x m : Str) (n k : Nat) (F : Xf) : Prop where
  ex : ∃ (C f : Addr) (fd : FuncData) (ps : List Str), clsIn K x C ∧ Meth K C m f ∧ Binds K fd ps [] ∧ FnOk P wd K mg base (L2.CX P wd) k f fd ps (SpX K mg n F)
def rzM (r : Rz) : M D := fun s => match r with
  | .ok d vh => .ok d ⟨s.loc, vh⟩
  | .exc e vh => .exc e ⟨s.loc, vh⟩
  | .bad => .bad
def callX (n : Nat) (F : Xf) (ds : List D) : M D := fun s => if ds.length = n then rzM (F ds s.vh) s else .bad
section
variable {X : Cx} {W' : L2.WX} {n k : Nat} {F : Xf} {x m : Str} {e o : Expr} {es : List Expr} {fo : M D} {fs : M (List D)} {p pos apos : Pos}
theorem ansX {w : Wd} {H : Hp} {σ : L2.St} {s : S} {vs : List V} {ds : List D} {Q : V → Hp → Prop} (R : RS X.K w H σ s) (r : RepL X.K w vs ds) (z : Post X.K (LW X.K X.mg W') (pD X.K) w H σ (callX n F ds s) Q) : SpX X.K X.mg n F vs H Q (WE W' σ) := by
  unfold callX at z
  split at z
  · next hl =>
    refine ⟨(RepL.length r).trans hl, w, σ, s, ds, R, r, ?_⟩
    unfold rzM at z
    cases hF : F ds s.vh with
    | ok d vh => rw [hF] at z; exact fun w' H' v l R' r' => z w' H' v l R' r'
    | exc e vh => rw [hF] at z; exact fun w' H' l R' => z w' H' l R'
    | bad => rw [hF] at z; exact z.elim
  · exact z.elim
theorem de_callX (h : FnX X.prog X.w X.K X.mg X.base x n k F) (tk : L2.Takes X W') (hr : Room k X.A) (ha : DA X (LW X.K X.mg W') (e :: es) fs) (hg : Gl X x := by rfl) (hdb : (x == ("__debug__" : Str)) = false := by decide)
    (he : starEach (e :: es) X.env = (false, eval e X.env) :: starEach es X.env := by rfl) (hpl : (backTo pos (starEach es X.env)).any (·.1) = false := by rfl) : DE X (LW X.K X.mg W') (.Call (.Name x p) (e :: es) [] pos) (bnd fs (callX n F)) := by
  obtain ⟨f, fd, ps, hm, hk, hb, G⟩ := h.ex
  obtain ⟨t, q, r⟩ := ha
  exact ⟨_, pe_callS G hr hg hm hk hb (fun σ => passAt tk σ) q hdb he hpl, fun w H σ s Q R z => r.bnd R z fun ds s1 w1 H1 vs l1 R1 r1 p1 => ansX R1 r1 p1⟩
/-- o.m(e, ..), what is let out told by the slots -/
def tMethS (C : Addr) (m : Str) (sp : Sp) (E : L2.St → XK) (ta : TE) (t : TA) : TE := fun σ H Q => ta σ H fun x H1 => ∃ a dx fs, x = .ref a ∧ H1 a = some (.ins C dx fs) ∧ fs.lookup m = none ∧ t σ H1 fun vs H2 => sp (.ref a :: vs) H2 Q (E σ)
theorem pe_methS {CX : CXT} {f C : Addr} {fd : FuncData} {ps : List Str} {sp : Sp} {E : L2.St → XK} {ta : TE} {t : TA} {pl : Sem Bool} (he : PE X o ta) (c : Cls X.K C) (hm : Meth X.K C m f) (G : FnOk X.prog X.w X.K X.mg X.base CX k f fd ps sp) (hr : Room k X.A) (hb : Binds X.K fd ps []) (hx : ∀ σ, PassesAt CX X σ (E σ)) (ha : PA X (e :: es) t)
    (hst : starEach (e :: es) X.env = (false, eval e X.env) :: starEach es X.env := by rfl) (hpl : (backTo pos (starEach es X.env)).any (·.1) = false := by rfl)
    (ht : eval (.Call (.Attribute o m apos) (e :: es) [] pos) X.env = (do
      let ov ← eval o X.env
      standAt apos.atName
      let (f, first) ← holding [ov] (getMethod ov m pl)
      callWith pos f first (backTo pos (starEach (e :: es) X.env)) (backToKw pos (keywordEach [] X.env))) := by rfl) :
    PE X (.Call (.Attribute o m apos) (e :: es) [] pos) (tMethS C m sp E ta t) := by
  refine ⟨fun pins s σ H Q I h => PySem.W.methodCall_KW (pl := pl) (thn (he.run pins s σ H _ I h) fun u s1 ⟨x, H1, I1, rx, a, dx, fs, ex, ea, l, q⟩ => ?_) ht⟩
  subst ex
  obtain rfl : u = Value.ref a := rx
  exact getmeth_ok I1 ea c hm l (PySem.W.callWith_K (first := [.ref a]) (h₀ := X.base) I.ok.mod.kin hm.kp (thn (ha.run pos pins s1 σ H1 _ I1 q) fun us s2 ⟨vs, H2, I2, r, q2⟩ => ⟨I2.kIn, run_fnS (us := .ref a :: us) (vs := .ref a :: vs) G hr hb (hx σ) I2 (.cons rfl r) q2⟩) hst hpl)
theorem pe_methS0 {CX : CXT} {f C : Addr} {fd : FuncData} {ps : List Str} {sp : Sp} {E : L2.St → XK} {ta : TE} {pl : Sem Bool} (he : PE X o ta) (c : Cls X.K C) (hm : Meth X.K C m f) (G : FnOk X.prog X.w X.K X.mg X.base CX k f fd ps sp) (hr : Room k X.A) (hb : Binds X.K fd ps []) (hx : ∀ σ, PassesAt CX X σ (E σ))
    (ht : eval (.Call (.Attribute o m apos) [] [] pos) X.env = (do
      let ov ← eval o X.env
      standAt apos.atName
      let (f, first) ← holding [ov] (getMethod ov m pl)
      callWith pos f first (backTo pos (starEach [] X.env)) (backToKw pos (keywordEach [] X.env))) := by rfl) :
    PE X (.Call (.Attribute o m apos) [] [] pos) (tMethS C m sp E ta tNil) := by
  refine ⟨fun pins s σ H Q I h => PySem.W.methodCall_KW (pl := pl) (thn (he.run pins s σ H _ I h) fun u s1 ⟨x, H1, I1, rx, a, dx, fs, ex, ea, l, q⟩ => ?_) ht⟩
  subst ex
  obtain rfl : u = Value.ref a := rx
  exact getmeth_ok I1 ea c hm l (PySem.W.callWith_K0 (first := [.ref a]) I1.kIn hm.kp (run_fnS (us := [.ref a]) (vs := [.ref a]) G hr hb (hx σ) I1 (.cons rfl .nil) q))
theorem de_metX (hc : ClsP X.K x) (h : MetX X.prog X.w X.K X.mg X.base x m n k F) (tk : L2.Takes X W') (hr : Room k X.A) (ho : DE X (LW X.K X.mg W') o fo) (ha : DA X (LW X.K X.mg W') (e :: es) fs) {pl : Sem Bool}
    (hst : starEach (e :: es) X.env = (false, eval e X.env) :: starEach es X.env := by rfl) (hpl : (backTo pos (starEach es X.env)).any (·.1) = false := by rfl)
    (ht : eval (.Call (.Attribute o m apos) (e :: es) [] pos) X.env = (do
      let ov ← eval o X.env
      standAt apos.atName
      let (f, first) ← holding [ov] (getMethod ov m pl)
      callWith pos f first (backTo pos (starEach (e :: es) X.env)) (backToKw pos (keywordEach [] X.env))) := by rfl) :
    DE X (LW X.K X.mg W') (.Call (.Attribute o m apos) (e :: es) [] pos) (metM x m fo fs (callX n F)) := by
  obtain ⟨C, f, fd, ps, hC, hm, hb, G⟩ := h.ex
  obtain ⟨to, po, ro⟩ := ho
  obtain ⟨t, q, r⟩ := ha
  refine ⟨_, pe_methS (pl := pl) po (hc C hC) hm G hr hb (fun σ => passAt tk σ) q hst hpl ht, fun w H σ s Q R z => ?_⟩
  refine ro.bnd R z fun d s1 w1 H1 v l1 R1 r1 p1 => ?_
  split at p1
  · next gs hgs =>
    split at p1
    · next hl =>
      obtain ⟨n, a, C', dx, vs, e0, e1, h1, h2, h3, h4, h5⟩ := R1.obj r1 hgs
      cases hC.eq h3
      refine ⟨a, dx, vs, e1, h4, RepF.lookN h5 hl, ?_⟩
      refine r.bnd R1 p1 fun ds s2 w2 H2 us l2 R2 r2 p2 => ?_
      rw [← e1]
      exact ansX R2 (.cons (r1.up l2) r2) p2
    · exact p1.elim
  · exact p1.elim
theorem de_metX0 (hc : ClsP X.K x) (h : MetX X.prog X.w X.K X.mg X.base x m n k F) (tk : L2.Takes X W') (hr : Room k X.A) (ho : DE X (LW X.K X.mg W') o fo) {pl : Sem Bool}
    (ht : eval (.Call (.Attribute o m apos) [] [] pos) X.env = (do
      let ov ← eval o X.env
      standAt apos.atName
      let (f, first) ← holding [ov] (getMethod ov m pl)
      callWith pos f first (backTo pos (starEach [] X.env)) (backToKw pos (keywordEach [] X.env))) := by rfl) :
    DE X (LW X.K X.mg W') (.Call (.Attribute o m apos) [] [] pos) (metM0 x m fo (callX n F)) := by
  obtain ⟨C, f, fd, ps, hC, hm, hb, G⟩ := h.ex
  obtain ⟨to, po, ro⟩ := ho
  refine ⟨_, pe_methS0 (pl := pl) po (hc C hC) hm G hr hb (fun σ => passAt tk σ) ht, fun w H σ s Q R z => ?_⟩
  refine ro.bnd R z fun d s1 w1 H1 v l1 R1 r1 p1 => ?_
  split at p1
  · next gs hgs =>
    split at p1
    · next hl =>
      obtain ⟨n, a, C', dx, vs, e0, e1, h1, h2, h3, h4, h5⟩ := R1.obj r1 hgs
      cases hC.eq h3
      refine ⟨a, dx, vs, e1, h4, RepF.lookN h5 hl, ?_⟩
      rw [← e1]
      exact ansX R1 (.cons r1 .nil) p1
    · exact p1.elim
  · exact p1.elim
end
end Fx

/-! Fx: raise -/
namespace Fx
open PySem PySem.Spec PyProof.Rows L2
/-- a class of errors without an own __init__ -/
structure Xc0 (K : PySem.W.Frag) (mg : Str → Option Value) (x : Str) : Prop where
  ex : ∃ C, mg x = some (.ref C) ∧ PySem.W.excIn K C [.type "ValueError", .type "Exception", .type "BaseException", .type "object"] "ValueError.__new__" = true ∧ PySem.W.keepIn K (.ref C) = true ∧
    PySem.W.subIn K (.ref C) (.type "BaseException") = some true ∧ PySem.W.typeIn K (.ref C) = some (.type "type")
section
variable {X : Cx} {W' : L2.WX} {x : Str} {C : Addr} {p pos pos' : Pos}
theorem pmk_own0 (q : PySem.W.excIn X.K C [.type "ValueError", .type "Exception", .type "BaseException", .type "object"] "ValueError.__new__" = true) (gC : X.mg x = some (.ref C)) (kC : PySem.W.keepIn X.K (.ref C) = true) (r : Raises X (.ref C)) (hg : Gl X x)
    (hdb : (x == ("__debug__" : Str)) = false := by decide) : PMk X (.Call (.Name x p) [] [] pos) (fun _ H Q => Q (.ref C) none H) := by
  intro pins s σ H Q I h
  refine wpAny_Call_Name_kw (ld_glob I hg gC ?_ hdb)
  refine PySem.W.callWith_K0 (first := []) I.kIn kC ?_
  show wpAny _ _ (call (.ref C) []) _ _ _
  obtain ⟨bm, N, nm, qn, bs, hdct, sn, sub, ab, col, dd, k0, k1, k2, k3, k5, mN, hC, hN, hni, T⟩ := exc_obj I.kIn q
  exact wpAny_call_exc_subT PySem.F.excBase_ValueError T hC hN hni (fun h' e hm => mk_of I hm r h (I.hok.gone hm.new)) (by show 0 ≤ sizeLine; omega)
def raiseM (x : Str) (ns : List Str) (ds : List D) : M Out := fun s => if ds.length = ns.length then .exc ⟨x, (ns.zip ds).reverse⟩ s else .bad
theorem ds_raise0 (q : Xc0 X.K X.mg x) (tk : L2.Takes X W') (hc : X.calm = true := by rfl) (hg : Gl X x := by rfl) (hdb : (x == ("__debug__" : Str)) = false := by decide) : DS X (LW X.K X.mg W') (.Raise (some (.Call (.Name x p) [] [] pos)) none pos') (raiseM x [] []) := by
  obtain ⟨C, gC, e1, e2, e3, e4⟩ := q.ex
  refine ⟨_, ps_raise hc tk (pmk_own0 e1 gC e2 (raises_own e3 e4) hg hdb), fun w H σ s D R z => ?_⟩
  have z : PostS X.K (LW X.K X.mg W') w H (.exc ⟨x, []⟩ s) D := z
  exact (z w H σ (Le.refl w H) R C gC).1 rfl
end
/-! ### errors that keep what they are made of -/
def SpE (K : PySem.W.Frag) (ns : List Str) : Sp := fun vs H Q _ => ∃ (a C : Addr) (us : List V), vs = .ref a :: us ∧ us.length = ns.length ∧ H a = some (exo a C none) ∧ OexC K C ∧ (∀ f ∈ ns, PySem.W.findIn K (.ref C) f = some none) ∧
  ∀ d, H d = none → d ≠ a → Q .non (upd (upd H d (exd d (ns.zip us).reverse)) a (exo a C (some d)))
structure Xc1 (P : Program) (wd : World) (K : PySem.W.Frag) (mg : Str → Option Value) (base : Heap) (x : Str) (ns : List Str) (k : Nat) : Prop where
  ex : ∃ (C fI : Addr) (fd : FuncData) (ps : List Str), mg x = some (.ref C) ∧ OexC K C ∧ (∀ f ∈ ns, PySem.W.findIn K (.ref C) f = some none) ∧ PySem.W.findIn K (.ref C) "__init__" = some (some (.ref fI)) ∧ PySem.W.typeIn K (.ref fI) = some (.type "function") ∧ Binds K fd ps [] ∧
    FnOk P wd K mg base CX0 k fI fd ps (SpE K ns)
section
variable {P : Program} {wd : World} {K : PySem.W.Frag} {mg : Str → Option Value} {base : Heap} {qual n m : Str} {st : Stmt} {f : Addr} {fd : FuncData} {N ps : List Str} {k : Nat}
theorem sv {us : List V} {N : List Str} {i : Nat} {v : V} (h : us[i]? = some v) : (start N us)[i]? = some (some v) := by
  have hi := (List.getElem?_eq_some_iff.mp h).1
  show (us.map some ++ _)[i]? = _
  rw [List.getElem?_append_left (by rw [List.length_map]; exact hi), List.getElem?_map, h]
  rfl
theorem init1 (F : Fun K "__init__" qual st f fd) (Sc : FnScope N ps (defScope st)) (h2 : ps.length = 2)
    (body : ∀ (cdv : Value) (A : Around) (outer : List Env) (s : Shared) (H : Hp) (E : XK), PSs (cxOf CX0 P wd K mg base N qual (defScope st) f cdv A outer s H E).nox (defBody st) (tOst K n (tVar 0) (tVar 1))) : FnOk P wd K mg base CX0 (k + 1) f fd ps (SpE K [n]) := by
  refine F.ok Sc (fun vs H Q E h => ?_) fun cdv A outer s H vs Q E hr h => ?_
  · obtain ⟨a, C, us, e, l, _⟩ := h
    rw [e, List.length_cons, l, h2]; rfl
  · obtain ⟨a, C, us, e, l, ea, T, hf, q⟩ := h
    subst e
    cases us with
    | nil => cases l
    | cons y r =>
      cases r with
      | cons _ _ => cases l
      | nil =>
        exact ⟨_, body cdv A outer s H E, y, sv rfl, .ref a, sv rfl, a, C, rfl, T, hf n List.mem_cons_self, .inl ⟨ea, fun dx hd hne => q dx hd hne⟩⟩
theorem init2 (F : Fun K "__init__" qual st f fd) (Sc : FnScope N ps (defScope st)) (h2 : ps.length = 3)
    (body : ∀ (cdv : Value) (A : Around) (outer : List Env) (s : Shared) (H : Hp) (E : XK), PSs (cxOf CX0 P wd K mg base N qual (defScope st) f cdv A outer s H E).nox (defBody st) (tSeq (tOst K n (tVar 0) (tVar 1)) (tOst K m (tVar 0) (tVar 2)))) : FnOk P wd K mg base CX0 (k + 1) f fd ps (SpE K [n, m]) := by
  refine F.ok Sc (fun vs H Q E h => ?_) fun cdv A outer s H vs Q E hr h => ?_
  · obtain ⟨a, C, us, e, l, _⟩ := h
    rw [e, List.length_cons, l, h2]; rfl
  · obtain ⟨a, C, us, e, l, ea, T, hf, q⟩ := h
    subst e
    cases us with
    | nil => cases l
    | cons y r =>
      cases r with
      | nil => cases l
      | cons y2 r =>
        cases r with
        | cons _ _ => cases l
        | nil =>
          refine ⟨_, body cdv A outer s H E, y, sv rfl, .ref a, sv rfl, a, C, rfl, T, hf n List.mem_cons_self, .inl ⟨ea, fun dx hd hne => ?_⟩⟩
          refine ⟨y2, sv rfl, .ref a, sv rfl, a, C, rfl, T, hf m (List.mem_cons_of_mem _ List.mem_cons_self), .inr ⟨dx, [(n, y)], upd_same, ?_, (by show 1 ≤ 900; decide), ?_⟩⟩
          · rw [upd_ne hne, upd_same]
          · have := q dx hd hne
            have e : upd (upd (upd H dx (exd dx [(n, y)])) a (exo a C (some dx))) dx (exd dx [(m, y2), (n, y)]) = upd (upd H dx (exd dx [(m, y2), (n, y)])) a (exo a C (some dx)) := by
              funext b
              by_cases h1 : b = dx
              · subst h1; rw [upd_same, upd_ne hne, upd_same]
              · rw [upd_ne h1]
                by_cases h3 : b = a
                · subst h3; rw [upd_same, upd_same]
                · rw [upd_ne h3, upd_ne h3, upd_ne h1, upd_ne h1]
            show Q .non (upd (upd (upd H dx (exd dx [(n, y)])) a (exo a C (some dx))) dx (exd dx [(m, y2), (n, y)]))
            rw [e]
            exact this
end
section
variable {X : Cx} {W' : L2.WX} {x : Str} {ns : List Str} {k : Nat} {e : Expr} {es : List Expr} {fs : M (List D)} {p pos pos' : Pos}
theorem repF_zip {K : PySem.W.Frag} {w : Wd} : ∀ {ns : List Str} {vs : List V} {ds : List D}, RepL K w vs ds → RepF K w (ns.zip vs) (ns.zip ds)
  | [], _, _, _ => .nil
  | _ :: _, _, _, .nil => .nil
  | _ :: ns, _, _, .cons h t => .cons h (repF_zip t)
theorem repF_app {K : PySem.W.Frag} {w : Wd} : ∀ {vs us : List (Str × V)} {ds es : List (Str × D)}, RepF K w vs ds → RepF K w us es → RepF K w (vs ++ us) (ds ++ es)
  | _, _, _, _, .nil, s => s
  | _, _, _, _, .cons h t, s => .cons h (repF_app t s)
theorem repF_rev {K : PySem.W.Frag} {w : Wd} : ∀ {vs : List (Str × V)} {ds : List (Str × D)}, RepF K w vs ds → RepF K w vs.reverse ds.reverse
  | _, _, .nil => .nil
  | _, _, .cons h t => by
    rw [List.reverse_cons, List.reverse_cons]
    exact repF_app (repF_rev t) (.cons h .nil)
theorem ds_raise1 (q : Xc1 X.prog X.w X.K X.mg X.base x ns k) (hn : ns ≠ []) (hn2 : ns.length ≤ 10) (tk : L2.Takes X W') (hr : Room (k + 1) X.A) (ha : DA X (LW X.K X.mg W') (e :: es) fs) (hc : X.calm = true := by rfl) (hg : Gl X x := by rfl) (hdb : (x == ("__debug__" : Str)) = false := by decide)
    (he : starEach (e :: es) X.env = (false, eval e X.env) :: starEach es X.env := by rfl) (hpl : (backTo pos (starEach es X.env)).any (·.1) = false := by rfl) : DS X (LW X.K X.mg W') (.Raise (some (.Call (.Name x p) (e :: es) [] pos)) none pos') (bnd fs (raiseM x ns)) := by
  obtain ⟨C, fI, fd, ps, gC, T, hno, iC, tI, hb, G⟩ := q.ex
  obtain ⟨t, qa, r⟩ := ha
  refine ⟨_, ps_raise hc tk (pmk_oex T iC tI G hr hb .nil pass0 hg gC qa hdb he hpl), fun w H σ s D R z => ?_⟩
  refine r.bndS R z fun ds s1 w1 H1 vs l1 R1 r1 p1 => ?_
  unfold raiseM at p1
  split at p1
  · next hl =>
    have hv : vs.length = ns.length := (RepL.length r1).trans hl
    refine ⟨by omega, fun a ha => ⟨a, C, vs, by rw [List.append_nil], hv, upd_same, T, hno, fun d hd hne => ?_⟩⟩
    have hd1 : H1 d = none := by rw [upd_ne hne] at hd; exact hd
    refine ⟨rfl, d, (ns.zip vs).reverse, upd_same, by rw [upd_ne hne, upd_same], hd1, ?_⟩
    have eH : upd (del (upd (upd (upd H1 a (exo a C none)) d (exd d (ns.zip vs).reverse)) a (exo a C (some d))) a) d (.xd (ns.zip vs).reverse) = upd H1 d (.xd (ns.zip vs).reverse) := by
      funext b
      by_cases h1 : b = d
      · subst h1; rw [upd_same, upd_same]
      · rw [upd_ne h1, upd_ne h1]
        by_cases h2 : b = a
        · subst h2; rw [del_same, ha]
        · rw [del_ne h2, upd_ne h2, upd_ne h1, upd_ne h2]
    rw [eH]
    have hne : (⟨x, (ns.zip ds).reverse⟩ : Ex).fs ≠ [] := fun z => by
      have z : (ns.zip ds).reverse = [] := z
      have z2 := congrArg List.length z
      rw [List.length_reverse, List.length_zip, hl, Nat.min_self] at z2
      exact hn (List.length_eq_zero_iff.mp z2)
    have p1 : PostS X.K (LW X.K X.mg W') w1 H1 (.exc ⟨x, (ns.zip ds).reverse⟩ s1) D := p1
    exact (p1 w1 H1 σ (Le.refl w1 H1) R1 C gC).2 hne d _ hd1 (repF_rev (repF_zip r1))
  · exact p1.elim
end
end Fx

/-! Fx: try .. except -/
namespace Fx
open PySem PySem.Spec PyProof.Rows L2
/-- the caught error, as the world knows it -/
structure XAt (K : PySem.W.Frag) (mg : Str → Option Value) (cls : Value) (d : Option Addr) (e : Ex) (w : Wd) : Prop where
  cl : ∃ C, mg e.cls = some (.ref C) ∧ cls = .ref C
  fs : (e.fs = [] ∧ d = none) ∨ ∃ dd vs, d = some dd ∧ w.F dd = some (.xd vs) ∧ RepF K w vs e.fs
theorem XAt.up {K : PySem.W.Frag} {mg : Str → Option Value} {cls : Value} {d : Option Addr} {e : Ex} {w w' : Wd} {H H' : Hp} (h : XAt K mg cls d e w) (l : Le w H w' H') : XAt K mg cls d e w' :=
  ⟨h.cl, h.fs.imp id fun ⟨dd, vs, a, b, c⟩ => ⟨dd, vs, a, l.le.2 _ _ b, c.upW l.le⟩⟩
/-- what an own class of errors must say, so that isinstance asks its instances rightly -/
structure ExcQ (K : PySem.W.Frag) (C : Addr) : Prop where
  cl : (PySem.W.clsIn K C).isSome = true
  hg : PySem.W.findIn K (.ref C) "__getattribute__" = some (some (.builtin "BaseException.__getattribute__"))
  hk : PySem.W.findIn K (.ref C) "__getattr__" = some none
  hs : PySem.W.subIn K (.ref C) (.type "BaseException") = some true
  ha : PySem.W.findIn K (.ref C) "__class__" = some (some (.builtin "object.__class__"))
  hn : PySem.W.specialIn K (.builtin "object.__class__") "__get__" = some (some (.builtin "getset_descriptor.__get__"))
  ht : PySem.W.takesIn K (.builtin "object.__class__") = some true
  hm : PySem.W.mroIn K C (.type "object") = some true
def rIsX (K : PySem.W.Frag) (C a : Addr) (d : Option Addr) : List V → Hp → VK → Prop := fun xs H Q => ∃ (c : V) (cv : Value) (b : Bool), xs = [.ref a, c] ∧ (∀ u, RelV c u → u = cv) ∧ PySem.W.kitOne K (.ref C) cv = some b ∧ (d = none ∨ ∃ dd vs, d = some dd ∧ H dd = some (.xd vs)) ∧ Q (.bl b) H
theorem call_isX {X : Cx} {a C : Addr} {d : Option Addr} {oe : Obj} {pn : List (Addr × Obj)} (T : ExcQ X.K C) (hz : Zc (.ref C) d oe) (hf : ∃ vs, oe.data = .fields vs) : CallR (X.suite a ((a, oe) :: pn)) (.builtin "isinstance") (rIsX X.K C a d) := by
  intro pins s σ H xs us Q I r h
  obtain ⟨c, cv, b, rfl, hcv, e, hd, q⟩ := h
  cases r with
  | cons rx rr =>
    cases rr with
    | cons rt rr =>
      cases rr
      cases rx
      have ec := hcv _ rt
      subst ec
      obtain ⟨hget, _⟩ := I.pin (a, oe) (List.mem_append.mpr (.inl List.mem_cons_self))
      obtain ⟨vs, hv⟩ := hf
      have key : ∃ od, PySem.W.InstAt s.heap a oe C od := by
        rcases hd with rfl | ⟨dd, us, rfl, ea⟩
        · refine ⟨none, ?_⟩
          obtain ⟨oc, od, oda, osl⟩ := oe
          obtain ⟨h1, h2⟩ := hz
          dsimp only at h1 h2 hv
          subst h1 h2 hv
          exact ⟨hget, rfl, rfl, trivial⟩
        · have hx : ObjOk X.prog X.w H s.heap dd (.xd us) := I.hok dd _ ea
          obtain ⟨mA, hns, hr⟩ := hx
          obtain ⟨od, ho, hl⟩ := lookIn_ns hns
          exact ⟨some od, hget, hz.1, by unfold PySem.W.notCls; rw [hv] <;> rfl, by rw [hz.2]; exact ho⟩
      obtain ⟨od, J⟩ := key
      exact PySem.W.kia_one (PySem.W.kitx_exc T.cl T.hg T.hk T.hs T.ha T.hn T.ht T.hm) I.kIn J e (fun z => nomatch z) fun tk => ⟨.bl b, H, I.kept (t' := tk) fun _ _ z => z, rfl, q⟩
/-- an expression of an except suite, a the caught error in slot i -/
def DX (X : Cx) (a : Addr) (cls : Value) (d : Option Addr) (e : Ex) (i : Nat) (ex : Expr) (v : S → Option D) : Prop :=
  ∃ t, PE X ex t ∧ ∀ w H σ s Q x, RS X.K w H σ s → XAt X.K X.mg cls d e w → σ[i]? = some (some (.ref a)) → v s = some x → (∀ w' H' u, Le w H w' H' → RS X.K w' H' σ s → Rep X.K w' u x → Q u H') → t σ H Q
def DXL (X : Cx) (a : Addr) (cls : Value) (d : Option Addr) (e : Ex) (i : Nat) (es : List Expr) (v : S → Option (List D)) : Prop :=
  ∃ t, PA X es t ∧ ∀ w H σ s Q x, RS X.K w H σ s → XAt X.K X.mg cls d e w → σ[i]? = some (some (.ref a)) → v s = some x → (∀ w' H' u, Le w H w' H' → RS X.K w' H' σ s → RepL X.K w' u x → Q u H') → t σ H Q
/-- e.f, errors of the class x -/
structure XcF (K : PySem.W.Frag) (mg : Str → Option Value) (x f : Str) : Prop where
  ex : ∃ C, mg x = some (.ref C) ∧ XfC K C ∧ PySem.W.findIn K (.ref C) f = some none
/-- isinstance(e, T), errors of the class x -/
structure XcI (K : PySem.W.Frag) (mg : Str → Option Value) (x T : Str) (b : Bool) : Prop where
  ex : ∃ C CT, mg x = some (.ref C) ∧ mg T = some (.ref CT) ∧ ExcQ K C ∧ PySem.W.kitOne K (.ref C) (.ref CT) = some b
/-- .. T a class of the language -/
structure XcB (K : PySem.W.Frag) (mg : Str → Option Value) (x : Str) (T : String) (b : Bool) : Prop where
  ex : ∃ C, mg x = some (.ref C) ∧ ExcQ K C ∧ PySem.W.kitOne K (.ref C) (.type T) = some b
/-- except T, errors of the class x -/
structure XcP (K : PySem.W.Frag) (mg : Str → Option Value) (x T : Str) (b : Bool) : Prop where
  ex : ∃ C CT, mg x = some (.ref C) ∧ mg T = some (.ref CT) ∧ PySem.W.exmOne K (.ref C) (.ref CT) = some b
inductive Tab (P : Str → Bool → Prop) : List (Str × Bool) → Prop
  | nil : Tab P []
  | cons {x : Str} {b : Bool} {r : List (Str × Bool)} (h : P x b) (t : Tab P r) : Tab P ((x, b) :: r)
theorem Tab.at {P : Str → Bool → Prop} : ∀ {r : List (Str × Bool)} {x : Str} {b : Bool}, Tab P r → r.lookup x = some b → P x b
  | _, _, _, .nil, e => by cases e
  | _, x, b, .cons (x := y) (b := c) (r := r) h t, e => by
    rw [List.lookup_cons] at e
    by_cases k : x = y
    · subst k
      rw [beq_self_eq_true] at e
      cases e
      exact h
    · rw [beq_eq_false_iff_ne.mpr k] at e
      exact Tab.at t e
section
variable {X : Cx} {a : Addr} {oe : Obj} {cls : Value} {d : Option Addr} {e : Ex} {pn : List (Addr × Obj)} {i : Nat} {ex b : Expr} {es rest : List Expr} {p p2 pos : Pos} {n : Str} {v u : S → Option D} {vs : S → Option (List D)}
theorem dx_bad : DX X a cls d e i ex fun _ => none := ⟨fun _ _ _ => False, ⟨fun pins s σ H Q I h => h.elim⟩, fun w H σ s Q x R xa hs hv k => nomatch hv⟩
theorem dx_de {f : M D} (h : DE X W0 ex f) (hf : ∀ s x, v s = some x → f s = .ok x s) : DX X a cls d e i ex v := by
  obtain ⟨t, q, r⟩ := h
  refine ⟨t, q, fun w H σ s Q x R xa hs hv k => r w H σ s Q R ?_⟩
  rw [hf s x hv]
  exact fun w' H' u l R' ru => k w' H' u l R' ru
theorem dx_fld {x f : Str} (hx : XcF X.K X.mg x f) (hz : Zc cls d oe) (hf : ∃ vs, oe.data = .fields vs) (hN : X.N[i]? = some n := by rfl) (hv : Vis X.env.scope n := by first | exact Or.inl rfl | exact Or.inr (Or.inl rfl) | exact Or.inr (Or.inr rfl)) (hd : (n == ("__debug__" : Str)) = false := by decide) (hcd : (n == ("__classdict__" : Str)) = false := by decide)
    (hb : attributeBase (.Name n p) f X.env (eval (.Name n p) X.env) = eval (.Name n p) X.env := by rfl) : DX (X.suite a ((a, oe) :: pn)) a cls d e i (.Attribute (.Name n p) f pos) fun _ => if e.cls = x then e.fs.lookup f else none := by
  obtain ⟨C, hC, T, hno⟩ := hx.ex
  refine ⟨_, pe_xf T hno hz hf (pe_var (X := X.suite a ((a, oe) :: pn)) (i := i) hN hv hd hcd) hb, fun w H σ s Q y R xa hs hv k => ?_⟩
  by_cases hc : e.cls = x
  · rw [if_pos hc] at hv
    obtain ⟨C', c1, c2⟩ := xa.cl
    rw [hc] at c1
    have c1 : X.mg x = some (.ref C') := c1
    rw [hC] at c1
    cases c1
    rcases xa.fs with ⟨h1, _⟩ | ⟨dd, vs, h1, h2, h3⟩
    · rw [h1] at hv; cases hv
    · obtain ⟨u, l1, l2⟩ := RepF.lookup h3 hv
      exact ⟨.ref a, hs, rfl, c2, dd, vs, u, h1, R.sub _ _ h2, l1, k w H u (Le.refl w H) R l2⟩
  · rw [if_neg hc] at hv; cases hv
theorem dx_is {T : Str} {tab : List (Str × Bool)} (hT : Tab (fun x b => XcI X.K X.mg x T b) tab) (hz : Zc cls d oe) (hf : ∃ vs, oe.data = .fields vs) (hi : X.mg "isinstance" = none) (hg : Gl X "isinstance" := by rfl) (hg2 : Gl X T := by rfl) (hdT : (T == ("__debug__" : Str)) = false := by decide)
    (hN : X.N[i]? = some n := by rfl) (hv : Vis X.env.scope n := by first | exact Or.inl rfl | exact Or.inr (Or.inl rfl) | exact Or.inr (Or.inr rfl)) (hd : (n == ("__debug__" : Str)) = false := by decide) (hcd : (n == ("__classdict__" : Str)) = false := by decide)
    (hst : starEach [.Name n p2, .Name T p] X.env = (false, eval (.Name n p2) X.env) :: starEach [.Name T p] X.env := by rfl) (hst2 : starEach [.Name T p] X.env = (false, eval (.Name T p) X.env) :: starEach [] X.env := by rfl)
    (hpl : (backTo pos (starEach [.Name T p] X.env)).any (·.1) = false := by rfl) {p3 : Pos} :
    DX (X.suite a ((a, oe) :: pn)) a cls d e i (.Call (.Name "isinstance" p3) [.Name n p2, .Name T p] [] pos) fun _ => (tab.lookup e.cls).map .bl := by
  cases ht : tab.lookup e.cls with
  | none => exact dx_bad
  | some b =>
    obtain ⟨C, CT, hC, hCT, TQ, hk⟩ := (hT.at ht).ex
    by_cases hcls : cls = .ref C
    · subst hcls
      refine ⟨_, pe_callB (X := X.suite a ((a, oe) :: pn)) (call_isX TQ hz hf) hg hi (by decide +kernel) (pa_cons (pe_var (X := X.suite a ((a, oe) :: pn)) (i := i) hN hv hd hcd) (pa_cons (pe_glob (X := X.suite a ((a, oe) :: pn)) (v := .ref CT) hg2 hCT rfl hdT) pa_nil hst2) hst) (by decide) (by decide) hst hpl, fun w H σ s Q y R xa hs hv k => ?_⟩
      cases hv
      refine ⟨.ref a, hs, .ref CT, .ref CT, b, rfl, fun _ h => h, hk, ?_, k w H (.bl b) (Le.refl w H) R (.bl b)⟩
      rcases xa.fs with ⟨_, h2⟩ | ⟨dd, vs, h1, h2, h3⟩
      · exact .inl h2
      · exact .inr ⟨dd, vs, h1, R.sub _ _ h2⟩
    · refine ⟨fun _ _ _ => False, ⟨fun pins s σ H Q I h => h.elim⟩, fun w H σ s Q x R xa hs hv k => ?_⟩
      obtain ⟨C', c1, c2⟩ := xa.cl
      have c1 : X.mg e.cls = some (.ref C') := c1
      rw [hC] at c1
      cases c1
      exact hcls c2
theorem dx_isB {T : String} {tab : List (Str × Bool)} (hT : Tab (fun x b => XcB X.K X.mg x T b) tab) (hz : Zc cls d oe) (hf : ∃ vs, oe.data = .fields vs) (hi : X.mg "isinstance" = none) (hm : X.mg (Str.ofString T) = none) (hv0 : bootBuiltins (Str.ofString T) = some (.type T)) (hg : Gl X "isinstance" := by rfl) (hg2 : Gl X (Str.ofString T) := by rfl) (hn : Str.ofString T ≠ "__name__" := by decide) (hdT : (Str.ofString T == ("__debug__" : Str)) = false := by decide)
    (hN : X.N[i]? = some n := by rfl) (hv : Vis X.env.scope n := by first | exact Or.inl rfl | exact Or.inr (Or.inl rfl) | exact Or.inr (Or.inr rfl)) (hd : (n == ("__debug__" : Str)) = false := by decide) (hcd : (n == ("__classdict__" : Str)) = false := by decide)
    (hst : starEach [.Name n p2, .Name (Str.ofString T) p] X.env = (false, eval (.Name n p2) X.env) :: starEach [.Name (Str.ofString T) p] X.env := by rfl) (hst2 : starEach [.Name (Str.ofString T) p] X.env = (false, eval (.Name (Str.ofString T) p) X.env) :: starEach [] X.env := by rfl)
    (hpl : (backTo pos (starEach [.Name (Str.ofString T) p] X.env)).any (·.1) = false := by rfl) {p3 : Pos} :
    DX (X.suite a ((a, oe) :: pn)) a cls d e i (.Call (.Name "isinstance" p3) [.Name n p2, .Name (Str.ofString T) p] [] pos) fun _ => (tab.lookup e.cls).map .bl := by
  cases ht : tab.lookup e.cls with
  | none => exact dx_bad
  | some b =>
    obtain ⟨C, hC, TQ, hk⟩ := (hT.at ht).ex
    by_cases hcls : cls = .ref C
    · subst hcls
      refine ⟨_, pe_callB (X := X.suite a ((a, oe) :: pn)) (call_isX TQ hz hf) hg hi (by decide +kernel) (pa_cons (pe_var (X := X.suite a ((a, oe) :: pn)) (i := i) hN hv hd hcd) (pa_cons (pe_bltn (X := X.suite a ((a, oe) :: pn)) (v := .ty T) hg2 hm hv0 rfl hn hdT) pa_nil hst2) hst) (by decide) (by decide) hst hpl, fun w H σ s Q y R xa hs hv k => ?_⟩
      cases hv
      refine ⟨.ref a, hs, (.ty T : V), (.type T : Value), b, rfl, fun _ h => h, hk, ?_, k w H (.bl b) (Le.refl w H) R (.bl b)⟩
      rcases xa.fs with ⟨_, h2⟩ | ⟨dd, vs, h1, h2, h3⟩
      · exact .inl h2
      · exact .inr ⟨dd, vs, h1, R.sub _ _ h2⟩
    · refine ⟨fun _ _ _ => False, ⟨fun pins s σ H Q I h => h.elim⟩, fun w H σ s Q x R xa hs hv k => ?_⟩
      obtain ⟨C', c1, c2⟩ := xa.cl
      have c1 : X.mg e.cls = some (.ref C') := c1
      rw [hC] at c1
      cases c1
      exact hcls c2
theorem dx_one {op} (h : DX X a cls d e i ex v) : DX X a cls d e i (.BoolOp op [ex] pos) v := let ⟨t, p, r⟩ := h; ⟨t, pe_one p, r⟩
def andX (v u : S → Option D) : S → Option D := fun s => match v s with
  | some (.bl true) => u s
  | some (.bl false) => some (.bl false)
  | _ => none
theorem dx_and (h : DX X a cls d e i ex v) (h2 : DX X a cls d e i (.BoolOp .And (b :: rest) pos) u) : DX X a cls d e i (.BoolOp .And (ex :: b :: rest) pos) (andX v u) := by
  obtain ⟨t, p, r⟩ := h
  obtain ⟨t2, p2, r2⟩ := h2
  refine ⟨_, pe_and p p2, fun w H σ s Q y R xa hs hv k => ?_⟩
  unfold andX at hv
  cases h1 : v s with
  | none => rw [h1] at hv; cases hv
  | some x =>
    rw [h1] at hv
    refine r w H σ s _ x R xa hs h1 fun w' H' w1 l R' ru => ?_
    cases ru with
    | bl c =>
      refine ⟨c, rfl, ?_⟩
      cases c with
      | true => exact r2 w' H' σ s Q y R' (xa.up l) hs hv fun w2 H2 u l2 R2 ru => k w2 H2 u (l.trans l2) R2 ru
      | false => cases hv; exact k w' H' (.bl false) l R' (.bl false)
    | _ => cases hv
def notX (v : S → Option D) : S → Option D := fun s => match v s with
  | some (.bl c) => some (.bl (!c))
  | _ => none
theorem dx_not (h : DX X a cls d e i ex v) : DX X a cls d e i (.UnaryOp .Not ex pos) (notX v) := by
  obtain ⟨t, p, r⟩ := h
  refine ⟨_, pe_not p, fun w H σ s Q y R xa hs hv k => ?_⟩
  unfold notX at hv
  cases h1 : v s with
  | none => rw [h1] at hv; cases hv
  | some x =>
    rw [h1] at hv
    refine r w H σ s _ x R xa hs h1 fun w' H' w1 l R' ru => ?_
    cases ru with
    | bl c => cases hv; exact ⟨c, rfl, k w' H' (.bl (!c)) l R' (.bl _)⟩
    | _ => cases hv
theorem dxl_nil : DXL X a cls d e i [] fun _ => some [] := ⟨_, pa_nil, fun w H σ s Q y R xa hs hv k => by cases hv; exact k w H [] (Le.refl w H) R .nil⟩
def consX (v : S → Option D) (vs : S → Option (List D)) : S → Option (List D) := fun s => match v s, vs s with
  | some x, some xs => some (x :: xs)
  | _, _ => none
theorem dxl_cons (h : DX X a cls d e i ex v) (h2 : DXL X a cls d e i es vs) (hst : starEach (ex :: es) X.env = (false, eval ex X.env) :: starEach es X.env := by rfl) : DXL X a cls d e i (ex :: es) (consX v vs) := by
  obtain ⟨t, p, r⟩ := h
  obtain ⟨t2, p2, r2⟩ := h2
  refine ⟨_, pa_cons p p2 hst, fun w H σ s Q y R xa hs hv k => ?_⟩
  unfold consX at hv
  cases h1 : v s with
  | none => rw [h1] at hv; cases hv
  | some x =>
    cases h2 : vs s with
    | none => rw [h1, h2] at hv; cases hv
    | some xs =>
      rw [h1, h2] at hv
      cases hv
      refine r w H σ s _ x R xa hs h1 fun w' H' u l R' ru => ?_
      refine r2 w' H' σ s _ xs R' (xa.up l) hs h2 fun w2 H2 us l2 R2 rus => ?_
      exact k w2 H2 (u :: us) (l.trans l2) R2 (.cons (ru.up l2) rus)
def tupX (vs : S → Option (List D)) : S → Option D := fun s => match vs s with
  | some xs => if xs.length ≤ 16777216 then some (.tup xs) else none
  | none => none
theorem dx_tup {x1} (h : DXL X a cls d e i es vs) : DX X a cls d e i (.Tuple es x1 pos) (tupX vs) := by
  obtain ⟨t, p, r⟩ := h
  refine ⟨_, pe_tupC p, fun w H σ s Q y R xa hs hv k => ?_⟩
  unfold tupX at hv
  cases h1 : vs s with
  | none => rw [h1] at hv; cases hv
  | some xs =>
    rw [h1] at hv
    dsimp only at hv
    split at hv
    · next hl =>
      cases hv
      refine r w H σ s _ xs R xa hs h1 fun w' H' us l R' ru => ?_
      refine ⟨by rw [RepL.length ru]; exact hl, fun q o ho hq => ?_⟩
      obtain ⟨l2, R2, r2⟩ := R'.newT hq ru ho
      exact k _ _ _ (l.trans l2) R2 r2
    · cases hv
end
/-! ### the statement -/
def suM (i j : Nat) (v : Ex → S → Option D) (e : Ex) : M Out := fun s => if i < s.loc.length then (match v e ⟨s.loc.set i none, s.vh⟩ with
  | some x => .ok .nx ⟨(s.loc.set i none).set j (some x), s.vh⟩
  | none => .bad) else .bad
def tryM (f : M Out) (tab : List (Str × Bool)) (su : Ex → M Out) : M Out := fun s => match f s with
  | .exc e s' => match tab.lookup e.cls with
    | some true => su e s'
    | some false => .exc e s'
    | none => .bad
  | r => r
def noX (m : M Out) : M Out := fun s => match m s with
  | .exc _ _ => .bad
  | r => r
/-- what is let out, told to the machine -/
def OutW (K : PySem.W.Frag) (mg : Str → Option Value) (W : WX) (Wout : L2.WX) : Prop := ∀ e w H σ C, mg e.cls = some (.ref C) → W e w H σ →
  (e.fs = [] → Wout (.ref C) none σ H) ∧ (e.fs ≠ [] → ∀ d vs, H d = none → RepF K w vs e.fs → Wout (.ref C) (some d) σ (upd H d (.xd vs)))
theorem outW0 {K : PySem.W.Frag} {mg : Str → Option Value} {Wout : L2.WX} : OutW K mg W0 Wout := fun _ _ _ _ _ _ h => h.elim
theorem outLW {K : PySem.W.Frag} {mg : Str → Option Value} {W' : L2.WX} : OutW K mg (LW K mg W') W' := fun _ _ _ _ C hC h => h C hC
section
variable {X : Cx} {W : WX} {Wout : L2.WX} {body : List Stmt} {f : M Out} {T n y : Str} {tab : List (Str × Bool)} {i j : Nat} {ex : Expr} {v : Ex → S → Option D} {np p' p2 pos pos' : Pos}
theorem ds_try_as (hW : OutW X.K X.mg W Wout) (tk : L2.Takes X Wout) (hT : Tab (fun x b => XcP X.K X.mg x T b) tab) (hTn : ∃ C, X.mg T = some (.ref C)) (hij : i ≠ j)
    (hb : ∀ (W' : L2.WX) (pn : List (Addr × Obj)) (xe : Value → Shared → Prop), L2.Takes (X.tr pn xe) W' → PassesOwn (model X.prog X.w) X.A X.env xe → DSs (X.tr pn xe) (LW X.K X.mg W') body f)
    (hsu : ∀ (a : Addr) (oe : Obj) (cls : Value) (d : Option Addr) (pn : List (Addr × Obj)) (e : Ex), Zc cls d oe → (∃ vs, oe.data = .fields vs) → DX (X.suite a ((a, oe) :: pn)) a cls d e i ex (v e))
    (hN : X.N.Nodup) (hs : X.stack = X.env :: X.outer := by rfl) (hf : X.env.frame = some X.env.locals := by rfl) (hi : X.N[i]? = some n := by rfl) (hln : X.env.kindOf n = some .local := by rfl) (hg : Gl X T := by rfl) (hdT : (T == ("__debug__" : Str)) = false := by decide)
    (hj : X.N[j]? = some y := by rfl) (hx : Loc X.env.scope y := by first | exact Or.inl rfl | exact Or.inr rfl) (hf2 : X.fn y = true ∨ X.env.scope.names.lookup y = some .local := by first | exact .inl rfl | exact .inr rfl) (hsw : swapsWith ex (some (.Name y p')) p2.line X.env = pure false := by rfl) :
    DS X W (.Try body [.ExceptHandler (some (.Name T np)) (some n) [.Assign [.Name y p'] ex p2] pos'] [] [] pos) (tryM f tab (suM i j v)) := by
  obtain ⟨CT, hCT⟩ := hTn
  let tF : L2.WX → TS := fun W' D σ H => ∃ w s, RS X.K w H σ s ∧ PostS X.K (LW X.K X.mg W') w H (f s) D
  let ts : Addr → Value → Option Addr → TS := fun a cls d D σ H => ∃ w s e x, RS X.K w H σ s ∧ XAt X.K X.mg cls d e w ∧ σ[i]? = some (some (.ref a)) ∧ v e s = some x ∧ ∀ w' H' u, Le w H w' H' → RS X.K w' H' σ s → Rep X.K w' u x → D.nx (σ.set j (some u)) H'
  refine ⟨_, ps_try_as (tb := tF) (ts := ts) (c := .ref CT) (i := i) hs hf hN hi hln ⟨hg, hdT, .inl hCT⟩ tk (fun W' pn xe t po => ?_) (fun a oe cls d pn hz hfl => ?_), fun w H σ s D R z => ?_⟩
  · obtain ⟨t2, p, r⟩ := hb W' pn xe t po
    exact ⟨fun pins s σ H D I ⟨w, z, R, P⟩ => p.run pins s σ H D I (r w H σ z D R P)⟩
  · refine ⟨fun pins s σ H D I ⟨w, z, e, x, R, xa, h1, h2, k⟩ => ?_⟩
    obtain ⟨t, p, r⟩ := hsu a oe cls d pn e hz hfl
    exact (pss_one (ps_set (X := X.suite a ((a, oe) :: pn)) (i := j) hN hj hx p hsw hf2)).run pins s σ H D I (r w H σ z _ x R xa h1 h2 k)
  · refine ⟨w, s, R, ?_⟩
    unfold tryM at z
    cases hfs : f s with
    | bad => rw [hfs] at z; exact z.elim
    | ok o s1 => rw [hfs] at z; cases o <;> exact z
    | exc e s1 =>
      rw [hfs] at z
      dsimp only at z
      intro w' H' σ' l R' C hC
      cases ht : tab.lookup e.cls with
      | none => rw [ht] at z; exact z.elim
      | some b =>
        rw [ht] at z
        obtain ⟨C2, CT2, c1, c2, hex⟩ := (hT.at ht).ex
        rw [hC] at c1; cases c1
        rw [hCT] at c2; cases c2
        cases b with
        | false =>
          have := hW e w' H' σ' C hC (z w' H' σ' l R')
          exact ⟨fun h0 => ⟨false, hex, (fun h => nomatch h), fun _ => this.1 h0⟩, fun h0 d vs hd rf => ⟨false, hex, (fun h => nomatch h), fun _ => this.2 h0 d vs hd rf⟩⟩
        | true =>
          dsimp only at z
          unfold suM at z
          by_cases hil0 : i < s1.loc.length
          rotate_left
          · rw [if_neg hil0] at z; exact z.elim
          rw [if_pos hil0] at z
          cases hv : v e ⟨s1.loc.set i none, s1.vh⟩ with
          | none => rw [hv] at z; exact z.elim
          | some x =>
            rw [hv] at z
            have key : ∀ (w2 : Wd) (H2 : Hp) (d : Option Addr) (a : Addr), Le w H w2 H2 → RS X.K w2 H2 σ' s1 → XAt X.K X.mg (.ref C) d e w2 → H2 a = none →
                ts a (.ref C) d { nx := fun σ' H' => D.nx (σ'.set i none) H', rt := D.rt, bk := fun σ' H' => D.bk (σ'.set i none) H', ct := fun σ' H' => D.ct (σ'.set i none) H' } (σ'.set i (some (.ref a))) H2 := fun w2 H2 d a l2 R2 xa ha => by
              have R3 : RS X.K w2 H2 (σ'.set i (some (.ref a))) ⟨s1.loc.set i none, s1.vh⟩ := R2.other (l := s1.loc.set i none) (by rw [List.length_set, List.length_set]; exact R2.len) fun k dd hk => by
                by_cases hik : k = i
                · subst hik
                  rw [List.getElem?_set_self'] at hk
                  cases h5 : s1.loc[k]? with
                  | none => rw [h5] at hk; cases hk
                  | some _ => rw [h5] at hk; cases hk
                · rw [List.getElem?_set_ne (fun z => hik z.symm)] at hk
                  rw [List.getElem?_set_ne (fun z => hik z.symm)]
                  exact R2.loc k dd hk
              have hil : i < σ'.length := by rw [R2.len]; exact hil0
              refine ⟨w2, ⟨s1.loc.set i none, s1.vh⟩, e, x, R3, xa, by rw [List.getElem?_set_self hil], hv, fun w4 H4 u l4 R4 ru => ?_⟩
              refine z w4 H4 _ (l2.trans l4) ?_
              have R5 := R4.set (i := j) ru
              refine R5.other (l := (s1.loc.set i none).set j (some x)) (by rw [List.length_set]; exact R5.len) fun k dd hk => ?_
              by_cases hik : k = i
              · subst hik
                rw [List.getElem?_set_ne (fun z => hij z.symm), List.getElem?_set_self'] at hk
                cases h5 : s1.loc[k]? with
                | none => rw [h5] at hk; cases hk
                | some _ => rw [h5] at hk; cases hk
              · rw [List.getElem?_set_ne (fun z => hik z.symm)]
                exact R5.loc k dd hk
            refine ⟨fun h0 => ⟨true, hex, fun _ a ha => key w' H' none a l R' ⟨⟨C, hC, rfl⟩, .inl ⟨h0, rfl⟩⟩ ha, fun h => nomatch h⟩, fun h0 d vs hd rf => ⟨true, hex, fun _ a ha => ?_, fun h => nomatch h⟩⟩
            have fr := R'.fresh hd
            have ll := Le.lay (w := w') (o := .xd vs) hd fr.1
            exact key _ _ (some d) a (l.trans ll) (R'.lay hd) ⟨⟨C, hC, rfl⟩, .inr ⟨d, vs, rfl, upd_same, rf.upW ll.le⟩⟩ ha
theorem ds_try_only {b₀ : Stmt} {suite : List Stmt} {su : M Out} (hW : OutW X.K X.mg W Wout) (tk : L2.Takes X Wout) (hT : Tab (fun x b => XcP X.K X.mg x T b) tab) (hTn : ∃ C, X.mg T = some (.ref C))
    (hb : ∀ (W' : L2.WX) (pn : List (Addr × Obj)) (xe : Value → Shared → Prop), L2.Takes (X.tr pn xe) W' → PassesOwn (model X.prog X.w) X.A X.env xe → DSs (X.tr pn xe) (LW X.K X.mg W') body f)
    (hsu : ∀ (a : Addr) (oe : Obj) (cls : Value) (d : Option Addr) (pn : List (Addr × Obj)), Zc cls d oe → (∃ vs, oe.data = .fields vs) → DSs (X.suite a ((a, oe) :: pn)) W0 (b₀ :: suite) su)
    (hs : X.stack = X.env :: X.outer := by rfl) (hf : X.env.frame = some X.env.locals := by rfl) (hg : Gl X T := by rfl) (hdT : (T == ("__debug__" : Str)) = false := by decide) :
    DS X W (.Try body [.ExceptHandler (some (.Name T np)) none (b₀ :: suite) pos'] [] [] pos) (tryM f tab fun _ => noX su) := by
  obtain ⟨CT, hCT⟩ := hTn
  let tF : L2.WX → TS := fun W' D σ H => ∃ w s, RS X.K w H σ s ∧ PostS X.K (LW X.K X.mg W') w H (f s) D
  let ts : Addr → Value → Option Addr → TS := fun a cls d D σ H => ∃ w s, RS X.K w H σ s ∧ PostS X.K W0 w H (su s) D
  refine ⟨_, ps_try_only (tb := tF) (ts := ts) (c := .ref CT) hs hf ⟨hg, hdT, .inl hCT⟩ tk (fun W' pn xe t po => ?_) (fun a oe cls d pn hz hfl => ?_), fun w H σ s D R z => ?_⟩
  · obtain ⟨t2, p, r⟩ := hb W' pn xe t po
    exact ⟨fun pins s σ H D I ⟨w, z, R, P⟩ => p.run pins s σ H D I (r w H σ z D R P)⟩
  · obtain ⟨t2, p, r⟩ := hsu a oe cls d pn hz hfl
    exact ⟨fun pins s σ H D I ⟨w, z, R, P⟩ => p.run pins s σ H D I (r w H σ z D R P)⟩
  · refine ⟨w, s, R, ?_⟩
    unfold tryM at z
    cases hfs : f s with
    | bad => rw [hfs] at z; exact z.elim
    | ok o s1 => rw [hfs] at z; cases o <;> exact z
    | exc e s1 =>
      rw [hfs] at z
      dsimp only at z
      intro w' H' σ' l R' C hC
      cases ht : tab.lookup e.cls with
      | none => rw [ht] at z; exact z.elim
      | some b =>
        rw [ht] at z
        obtain ⟨C2, CT2, c1, c2, hex⟩ := (hT.at ht).ex
        rw [hC] at c1; cases c1
        rw [hCT] at c2; cases c2
        cases b with
        | false =>
          have := hW e w' H' σ' C hC (z w' H' σ' l R')
          exact ⟨fun h0 => ⟨false, hex, (fun h => nomatch h), fun _ => this.1 h0⟩, fun h0 d vs hd rf => ⟨false, hex, (fun h => nomatch h), fun _ => this.2 h0 d vs hd rf⟩⟩
        | true =>
          dsimp only at z
          have key : ∀ (w2 : Wd) (H2 : Hp) (d : Option Addr) (a : Addr), Le w H w2 H2 → RS X.K w2 H2 σ' s1 → ts a (.ref C) d D σ' H2 := fun w2 H2 d a l2 R2 => by
            refine ⟨w2, s1, R2, ?_⟩
            unfold noX at z
            have z := PostS.up l2 z
            cases hq : su s1 with
            | bad => rw [hq] at z; exact z.elim
            | exc e2 s2 => rw [hq] at z; exact z.elim
            | ok o s2 => rw [hq] at z; cases o <;> exact z
          refine ⟨fun h0 => ⟨true, hex, fun _ a ha => key w' H' none a l R', fun h => nomatch h⟩, fun h0 d vs hd rf => ⟨true, hex, fun _ a ha => ?_, fun h => nomatch h⟩⟩
          have fr := R'.fresh hd
          have ll := Le.lay (w := w') (o := .xd vs) hd fr.1
          exact key _ _ (some d) a (l.trans ll) (R'.lay hd)
end
end Fx

/-! Fx: defs that may raise, by the text; the classes of errors -/
namespace Fx
open PySem PySem.Spec PyProof.Rows L2
section
variable {P : Program} {wd : World} {K : PySem.W.Frag} {mg : Str → Option Value} {base : Heap} {x m q : Str} {st : Stmt} {N ps : List Str} {k : Nat} {g : M Out}
theorem Top.fnXS (T : Top K mg x st ps) (Sc : FnScope N ps (defScope st)) (hle : ps.length ≤ N.length)
    (body : ∀ (f : Addr) (cdv : Value) (A : Around) (outer : List Env) (s : Shared) (H : Hp) (E : XK), Room k (A.deeper (envOfC x (defScope st) s.heap.objs.size f cdv)) →
      DSs (cxOf (L2.CX P wd) P wd K mg base N x (defScope st) f cdv A outer s H E) (LE K mg E) (defBody st) g) : FnX P wd K mg base x ps.length (k + 1) (runXS N.length g) :=
  let ⟨f, fd, F, m, b, _⟩ := T.ex
  ⟨f, fd, ps, m, F.kp, b, fnX_S F Sc hle fun cdv A outer s H E hr => body f cdv A outer s H E hr⟩
theorem Top.fnXP (T : Top K mg x st ps) (Sc : FnScope N ps (defScope st)) (hle : ps.length ≤ N.length)
    (body : ∀ (f : Addr) (cdv : Value) (A : Around) (outer : List Env) (s : Shared) (H : Hp) (E : XK), Room k (A.deeper (envOfC x (defScope st) s.heap.objs.size f cdv)) →
      DSs (cxOf (L2.CX P wd) P wd K mg base N x (defScope st) f cdv A outer s H E) (LE K mg E) (defBody st) g) : FnX P wd K mg base x ps.length (k + 1) (runXP N.length g) :=
  let ⟨f, fd, F, m, b, _⟩ := T.ex
  ⟨f, fd, ps, m, F.kp, b, fnX_P F Sc hle fun cdv A outer s H E hr => body f cdv A outer s H E hr⟩
theorem Top.fnXW (T : Top K mg x st ps) (Sc : FnScope N ps (defScope st)) (hle : ps.length ≤ N.length)
    (body : ∀ (f : Addr) (cdv : Value) (A : Around) (outer : List Env) (s : Shared) (H : Hp) (E : XK), Room k (A.deeper (envOfC x (defScope st) s.heap.objs.size f cdv)) →
      DSs (cxOf (L2.CX P wd) P wd K mg base N x (defScope st) f cdv A outer s H E) (LE K mg E) (defBody st) g) : FnX P wd K mg base x ps.length (k + 1) (runXW N.length g) :=
  let ⟨f, fd, F, m, b, _⟩ := T.ex
  ⟨f, fd, ps, m, F.kp, b, fnX_W F Sc hle fun cdv A outer s H E hr => body f cdv A outer s H E hr⟩
theorem TopM.fnXS (T : TopM K x m q st ps) (Sc : FnScope N ps (defScope st)) (hle : ps.length ≤ N.length)
    (body : ∀ (f : Addr) (cdv : Value) (A : Around) (outer : List Env) (s : Shared) (H : Hp) (E : XK), Room k (A.deeper (envOfC q (defScope st) s.heap.objs.size f cdv)) →
      DSs (cxOf (L2.CX P wd) P wd K mg base N q (defScope st) f cdv A outer s H E) (LE K mg E) (defBody st) g) : MetX P wd K mg base x m ps.length (k + 1) (runXS N.length g) :=
  let ⟨C, f, fd, a, F, M, b⟩ := T.ex
  ⟨C, f, fd, ps, a, M, b, fnX_S F Sc hle fun cdv A outer s H E hr => body f cdv A outer s H E hr⟩
theorem TopM.fnXP (T : TopM K x m q st ps) (Sc : FnScope N ps (defScope st)) (hle : ps.length ≤ N.length)
    (body : ∀ (f : Addr) (cdv : Value) (A : Around) (outer : List Env) (s : Shared) (H : Hp) (E : XK), Room k (A.deeper (envOfC q (defScope st) s.heap.objs.size f cdv)) →
      DSs (cxOf (L2.CX P wd) P wd K mg base N q (defScope st) f cdv A outer s H E) (LE K mg E) (defBody st) g) : MetX P wd K mg base x m ps.length (k + 1) (runXP N.length g) :=
  let ⟨C, f, fd, a, F, M, b⟩ := T.ex
  ⟨C, f, fd, ps, a, M, b, fnX_P F Sc hle fun cdv A outer s H E hr => body f cdv A outer s H E hr⟩
theorem TopM.fnXW (T : TopM K x m q st ps) (Sc : FnScope N ps (defScope st)) (hle : ps.length ≤ N.length)
    (body : ∀ (f : Addr) (cdv : Value) (A : Around) (outer : List Env) (s : Shared) (H : Hp) (E : XK), Room k (A.deeper (envOfC q (defScope st) s.heap.objs.size f cdv)) →
      DSs (cxOf (L2.CX P wd) P wd K mg base N q (defScope st) f cdv A outer s H E) (LE K mg E) (defBody st) g) : MetX P wd K mg base x m ps.length (k + 1) (runXW N.length g) :=
  let ⟨C, f, fd, a, F, M, b⟩ := T.ex
  ⟨C, f, fd, ps, a, M, b, fnX_W F Sc hle fun cdv A outer s H E hr => body f cdv A outer s H E hr⟩
end
section
variable {P : Program} {wd : World} {K : PySem.W.Frag} {mg : Str → Option Value} {base : Heap} {x m q : Str} {st : Stmt} {ps : List Str} {n j k : Nat} {F : Xf}
theorem FnX.mono (h : FnX P wd K mg base x n j F) (l : j ≤ k) : FnX P wd K mg base x n k F := let ⟨f, fd, ps, a, b, c, d⟩ := h.ex; ⟨f, fd, ps, a, b, c, d.mono l⟩
theorem MetX.mono (h : MetX P wd K mg base x m n j F) (l : j ≤ k) : MetX P wd K mg base x m n k F := let ⟨C, f, fd, ps, a, b, c, d⟩ := h.ex; ⟨C, f, fd, ps, a, b, c, d.mono l⟩
theorem Top.nilX (T : Top K mg x st ps) : FnX P wd K mg base x ps.length k (fun _ _ => .bad) :=
  let ⟨f, fd, F, m, b, _⟩ := T.ex
  ⟨f, fd, ps, m, F.kp, b, fun _ _ _ _ h => h.1, fun _ _ _ _ _ _ _ _ _ _ _ _ _ h => by obtain ⟨_, _, _, _, _, _, _, e⟩ := h; exact e.elim⟩
theorem Top.nilN (T : Top K mg x st ps) : FnQ P wd K mg base x k (SpN K ps.length fun _ _ => none) :=
  let ⟨f, fd, F, m, b, _⟩ := T.ex
  ⟨f, fd, ps, m, F.kp, b, fun _ _ _ _ h => h.1, fun _ _ _ _ _ _ _ _ _ _ _ _ _ h => by obtain ⟨_, _, _, _, _, _, _, _, e, _⟩ := h; cases e⟩
theorem TopM.nilX (T : TopM K x m q st ps) : MetX P wd K mg base x m ps.length k (fun _ _ => .bad) :=
  let ⟨C, f, fd, a, F, M, b⟩ := T.ex
  ⟨C, f, fd, ps, a, M, b, fun _ _ _ _ h => h.1, fun _ _ _ _ _ _ _ _ _ _ _ _ _ h => by obtain ⟨_, _, _, _, _, _, _, e⟩ := h; exact e.elim⟩
end
/-- an own class of errors with an __init__ that keeps ns -/
structure TopE (K : PySem.W.Frag) (mg : Str → Option Value) (x q : Str) (st : Stmt) (ps ns : List Str) : Prop where
  ex : ∃ (C f : Addr) (fd : FuncData), mg x = some (.ref C) ∧ OexC K C ∧ (∀ n ∈ ns, PySem.W.findIn K (.ref C) n = some none) ∧ PySem.W.findIn K (.ref C) "__init__" = some (some (.ref f)) ∧ PySem.W.typeIn K (.ref f) = some (.type "function") ∧ Fun K "__init__" q st f fd ∧ Binds K fd ps []
section
variable {P : Program} {wd : World} {K : PySem.W.Frag} {mg : Str → Option Value} {base : Heap} {x q n m : Str} {st : Stmt} {N ps : List Str}
theorem TopE.mk1 (T : TopE K mg x q st ps [n]) (Sc : FnScope N ps (defScope st)) (h2 : ps.length = 2)
    (body : ∀ (f : Addr) (cdv : Value) (A : Around) (outer : List Env) (s : Shared) (H : Hp) (E : XK), PSs (cxOf CX0 P wd K mg base N q (defScope st) f cdv A outer s H E).nox (defBody st) (tOst K n (tVar 0) (tVar 1))) : Xc1 P wd K mg base x [n] 1 :=
  let ⟨C, f, fd, a, O, hn, hi, ht, F, b⟩ := T.ex
  ⟨C, f, fd, ps, a, O, hn, hi, ht, b, init1 F Sc h2 fun cdv A outer s H E => body f cdv A outer s H E⟩
theorem TopE.mk2 (T : TopE K mg x q st ps [n, m]) (Sc : FnScope N ps (defScope st)) (h2 : ps.length = 3)
    (body : ∀ (f : Addr) (cdv : Value) (A : Around) (outer : List Env) (s : Shared) (H : Hp) (E : XK), PSs (cxOf CX0 P wd K mg base N q (defScope st) f cdv A outer s H E).nox (defBody st) (tSeq (tOst K n (tVar 0) (tVar 1)) (tOst K m (tVar 0) (tVar 2)))) : Xc1 P wd K mg base x [n, m] 1 :=
  let ⟨C, f, fd, a, O, hn, hi, ht, F, b⟩ := T.ex
  ⟨C, f, fd, ps, a, O, hn, hi, ht, b, init2 F Sc h2 fun cdv A outer s H E => body f cdv A outer s H E⟩
theorem xc0_mk {h : Heap} (X : K.In h) (G : h.Ns mainGlobals mg) {C : Addr} (a : PySem.W.nsIn K mainGlobals x = some (some (.ref C))) (e1 : PySem.W.excIn K C [.type "ValueError", .type "Exception", .type "BaseException", .type "object"] "ValueError.__new__" = true) (e2 : PySem.W.keepIn K (.ref C) = true)
    (e3 : PySem.W.subIn K (.ref C) (.type "BaseException") = some true) (e4 : PySem.W.typeIn K (.ref C) = some (.type "type")) : Xc0 K mg x := ⟨C, PySem.W.mg_of X G a, e1, e2, e3, e4⟩
theorem topE_mk {h : Heap} (X : K.In h) (G : h.Ns mainGlobals mg) {ns : List Str} {C f : Addr} {nm : Str} {qn : Str} {Nn : Addr} {bs bm : List Value} {sn : List Str} {sub : List Value} {ab : Bool} {col : Option Bool} {dd : Option Addr} {m0 m1 m2 m3 m5 : Option Value} {oc : Value} {od an : Option Addr} {osl : Array (Option Value)} {kV doc pm cdv ct : Value}
    (a : PySem.W.nsIn K mainGlobals x = some (some (.ref C))) (xL : K.lookup C = some (excClassObj nm qn C Nn bs bm true sn sub ab col dd m0 m1 m2 m3 m5 "ValueError.__new__")) (rv : PySem.HandSPX.refsVE bm = true) (sa : PySem.W.findIn K (.ref C) "__setattr__" = some (some (.builtin "object.__setattr__")))
    (e3 : PySem.W.subIn K (.ref C) (.type "BaseException") = some true) (e4 : PySem.W.typeIn K (.ref C) = some (.type "type")) (e2 : PySem.W.keepIn K (.ref C) = true) (hn : ∀ n ∈ ns, PySem.W.findIn K (.ref C) n = some none) (fi : PySem.W.findIn K (.ref C) "__init__" = some (some (.ref f))) (ft : PySem.W.typeIn K (.ref f) = some (.type "function"))
    (l : K.lookup f = some ⟨oc, od, .func (PySem.W.fnOf "__init__" q (defArgs st) (defBody st) (defScope st) .none kV doc pm an cdv ct), osl⟩) (c : PySem.W.codeIn K cdv q = true) (k : PySem.W.keepIn K (.ref f) = true)
    (b : ∀ (kV doc pm : Value) (an : Option Addr) (cdv ct : Value) (us : List Value), us.length = ps.length → bindArgs (PySem.W.fnOf "__init__" q (defArgs st) (defBody st) (defScope st) .none kV doc pm an cdv ct) ⟨us, []⟩ = pure (ps.zip us)) : TopE K mg x q st ps ns :=
  have F := fun_mk (st := st) l c k
  ⟨C, f, _, PySem.W.mg_of X G a, ⟨⟨_, _, _, _, _, _, _, _, _, _, _, _, _, _, _, xL, rv⟩, sa, e3, e4, e2⟩, hn, fi, ft, F, F.binds b⟩
theorem xcF_mk {h : Heap} (X : K.In h) (G : h.Ns mainGlobals mg) {f : Str} {C : Addr} (a : PySem.W.nsIn K mainGlobals x = some (some (.ref C))) (ga : PySem.W.findIn K (.ref C) "__getattribute__" = some (some (.builtin "BaseException.__getattribute__"))) (gg : PySem.W.findIn K (.ref C) "__getattr__" = some none)
    (e3 : PySem.W.subIn K (.ref C) (.type "BaseException") = some true) (hd : PySem.W.hasDictIn K C = true) (hf : PySem.W.findIn K (.ref C) f = some none) : XcF K mg x f := ⟨C, PySem.W.mg_of X G a, ⟨ga, gg, e3, hd⟩, hf⟩
theorem excQ_mk {C : Addr} (ga : PySem.W.findIn K (.ref C) "__getattribute__" = some (some (.builtin "BaseException.__getattribute__"))) (gg : PySem.W.findIn K (.ref C) "__getattr__" = some none) (e3 : PySem.W.subIn K (.ref C) (.type "BaseException") = some true) (hd : PySem.W.hasDictIn K C = true)
    (k1 : PySem.W.findIn K (.ref C) "__class__" = some (some (.builtin "object.__class__"))) (k2 : PySem.W.specialIn K (.builtin "object.__class__") "__get__" = some (some (.builtin "getset_descriptor.__get__"))) (k3 : PySem.W.takesIn K (.builtin "object.__class__") = some true) (k4 : PySem.W.mroIn K C (.type "object") = some true) : ExcQ K C :=
  ⟨by obtain ⟨cd, hc, _⟩ := PySem.W.any_some hd; rw [hc]; rfl, ga, gg, e3, k1, k2, k3, k4⟩
theorem xcI_mk {h : Heap} (X : K.In h) (G : h.Ns mainGlobals mg) {T : Str} {b : Bool} {C CT : Addr} (a : PySem.W.nsIn K mainGlobals x = some (some (.ref C))) (aT : PySem.W.nsIn K mainGlobals T = some (some (.ref CT))) (Q : ExcQ K C) (k : PySem.W.kitOne K (.ref C) (.ref CT) = some b) : XcI K mg x T b := ⟨C, CT, PySem.W.mg_of X G a, PySem.W.mg_of X G aT, Q, k⟩
theorem xcB_mk {h : Heap} (X : K.In h) (G : h.Ns mainGlobals mg) {T : String} {b : Bool} {C : Addr} (a : PySem.W.nsIn K mainGlobals x = some (some (.ref C))) (Q : ExcQ K C) (k : PySem.W.kitOne K (.ref C) (.type T) = some b) : XcB K mg x T b := ⟨C, PySem.W.mg_of X G a, Q, k⟩
theorem xcP_mk {h : Heap} (X : K.In h) (G : h.Ns mainGlobals mg) {T : Str} {b : Bool} {C CT : Addr} (a : PySem.W.nsIn K mainGlobals x = some (some (.ref C))) (aT : PySem.W.nsIn K mainGlobals T = some (some (.ref CT))) (e3 : PySem.W.subIn K (.ref CT) (.type "BaseException") = some true) (hd : PySem.W.hasDictIn K CT = true)
    (e4 : PySem.W.typeIn K (.ref CT) = some (.type "type")) (s : PySem.W.subIn K (.ref C) (.ref CT) = some b) : XcP K mg x T b := ⟨C, CT, PySem.W.mg_of X G a, PySem.W.mg_of X G aT, PySem.W.exm_ref e3 hd e4 s⟩
end
/-! ### equations -/
section
variable {α : Type} {n i j : Nat} {F : Xf} {ds : List D} {s : S} {e : Ex} {d : D} {vh : List Cell} {x : Str} {fo : M D} {fs : M (List D)}
def rzR (r : Rz) (s : S) : Res D := rzM r s
theorem x_callX : callX n F ds s = if ds.length = n then rzR (F ds s.vh) s else .bad := nr rfl
theorem x_rzO : rzR (.ok d vh) s = .ok d ⟨s.loc, vh⟩ := nr rfl
theorem x_rzE : rzR (.exc e vh) s = .exc e ⟨s.loc, vh⟩ := nr rfl
theorem x_raise {ns : List Str} : raiseM x ns ds s = if ds.length = ns.length then .exc ⟨x, (ns.zip ds).reverse⟩ s else .bad := nr rfl
def tryR (tab : List (Str × Bool)) (su : Ex → M Out) : Res Out → Res Out
  | .exc e s' => match tab.lookup e.cls with
    | some true => su e s'
    | some false => .exc e s'
    | none => .bad
  | r => r
theorem x_try {f : M Out} {tab : List (Str × Bool)} {su : Ex → M Out} : tryM f tab su s = tryR tab su (f s) := by
  unfold tryM tryR
  cases f s <;> rfl
theorem x_tryO {tab : List (Str × Bool)} {su : Ex → M Out} {o : Out} : tryR tab su (.ok o s) = .ok o s := nr rfl
theorem x_tryE {tab : List (Str × Bool)} {su : Ex → M Out} (h : tab.lookup e.cls = some true) : tryR tab su (.exc e s) = su e s := by unfold tryR; dsimp only; rw [h]
theorem x_tryF {tab : List (Str × Bool)} {su : Ex → M Out} (h : tab.lookup e.cls = some false) : tryR tab su (.exc e s) = .exc e s := by unfold tryR; dsimp only; rw [h]
theorem x_su {v : Ex → S → Option D} {y : D} (hi : i < s.loc.length) (h : v e ⟨s.loc.set i none, s.vh⟩ = some y) : suM i j v e s = .ok .nx ⟨(s.loc.set i none).set j (some y), s.vh⟩ := by unfold suM; rw [if_pos hi, h]
end
theorem runXS_ok {n : Nat} {g : M Out} {ds : List D} {vh vh2 : List Cell} {d : D} (h : ∃ l, g (initS n ds vh) = .ok (.rt d) ⟨l, vh2⟩) : runXS n g ds vh = .ok d vh2 := by
  obtain ⟨l, h⟩ := h
  unfold runXS
  rw [h]
theorem runXS_nx {n : Nat} {g : M Out} {ds : List D} {vh vh2 : List Cell} (h : ∃ l, g (initS n ds vh) = .ok .nx ⟨l, vh2⟩) : runXS n g ds vh = .ok .non vh2 := by
  obtain ⟨l, h⟩ := h
  unfold runXS
  rw [h]
theorem runXS_ex {n : Nat} {g : M Out} {ds : List D} {vh vh2 : List Cell} {e : Ex} (h : ∃ l, g (initS n ds vh) = .exc e ⟨l, vh2⟩) : runXS n g ds vh = .exc e vh2 := by
  obtain ⟨l, h⟩ := h
  unfold runXS
  rw [h]
theorem runXP_ex {n : Nat} {g : M Out} {ds : List D} {vh more : List Cell} {e : Ex} (h : ∃ l, g (initS n ds vh) = .exc e ⟨l, vh ++ more⟩) (hn : (e.fs.all fun kv => nc vh.length kv.2) = true) : runXP n g ds vh = .exc e vh := by
  obtain ⟨l, h⟩ := h
  unfold runXP
  rw [h]
  dsimp only
  rw [if_pos ⟨by rw [List.take_left'] ; rfl, hn⟩]
end Fx

/-! Fx: list * int -/
namespace Fx
open PySem PySem.Spec PyProof.Rows L2
variable {X : Cx} {W : WX}
def rMulR (K : PySem.W.Frag) : R2 := fun x y H Q => ∃ l xs n, x = .ref l ∧ y = .int n ∧ SqL K H l xs ∧ 0 ≤ n ∧ n ≤ 1000 ∧ xs.length * n.toNat ≤ 256 ∧ ∀ p, H p = none → Q (.ref p) (upd H p (.lst (List.replicate n.toNat xs).flatten))
theorem op_mulR : OpR X (binaryOp .Mult) (rMulR X.K) := by
  intro pins s σ H x y v u Q I rx ry h
  obtain ⟨l, xs, n, rfl, rfl, hH, h0, h1, hz, q⟩ := h
  cases rx
  obtain ⟨tk, rfl⟩ := ry
  obtain ⟨its, r, ⟨⟨cls, dd, data, sl⟩, k, ho, hc, hdd, hd⟩, _⟩ := I.list hH
  simp only at hc hd
  subst hc hd
  have hl := r.length
  have hsz : its.toArray.size * n.toNat ≤ 256 := by rw [List.size_toArray, ← hl]; exact hz
  refine wpAny_binaryOp_repeat_ref (T := "list") (U := "int") (by decide) ⟨_, ho, rfl⟩ (fun s' => typeIs_int s' n tk) noFill_list_mul PySem.F.fills_int_mul PySem.F.slot_int_rmul repeat_list PySem.F.slot_int_index.lookup
    (call_meets PySem.F.slot_int_rmul (typeIs_int s n tk) PySem.F.entry_int_rmul (PySem.F.args_int_rmul_2 _ _) (lm_int_rmul_list_any n tk l its.toArray k dd sl)
      ⟨ho, rfl, ⟨_, ho, rfl⟩, call_meets PySem.F.slot_list_mul ⟨_, ho, rfl⟩ PySem.F.entry_list_mul (PySem.F.args_list_mul_2 _ _)
        (lm_list_mul_any l its.toArray k dd sl n tk (by simp [Builtin.List.listFitsIndex]; omega) (by omega) (by rw [show Builtin.List.listTooLong (its.toArray.size * n.toNat) = false from decide_eq_false (by unfold sizeLine; omega)]; simp))
        ⟨ho, ?_⟩⟩)
  rw [listMul_foldl_if]
  have rr : ∀ j : Nat, Vals (List.replicate j xs).flatten (List.replicate j its).flatten := fun j => by
    induction j with
    | zero => exact .nil
    | succ j ih => rw [List.replicate_succ, List.replicate_succ, List.flatten_cons, List.flatten_cons]; exact r.append ih
  have ln : (List.replicate n.toNat xs).flatten.length ≤ sizeLine := by
    rw [List.length_flatten, List.map_replicate, List.sum_replicate_nat]
    have : n.toNat * xs.length = xs.length * n.toNat := Nat.mul_comm _ _
    unfold sizeLine
    omega
  exact ⟨.ref _, _, I.lnew (t' := s.toks) (rr _) ln, rfl, q _ I.fresh⟩
def mulLN : D → D → M Cell := fun d e s => match lstOf s d, e with
  | some xs, .int n => if 0 ≤ n ∧ n ≤ 1000 ∧ xs.length * n.toNat ≤ 256 then .ok (.lst (List.replicate n.toNat xs).flatten) s else .bad
  | _, _ => .bad
theorem RepL.rep {K : PySem.W.Frag} {w : Wd} {vs : List V} {ds : List D} (h : RepL K w vs ds) : ∀ n : Nat, RepL K w (List.replicate n vs).flatten (List.replicate n ds).flatten
  | 0 => .nil
  | n + 1 => by rw [List.replicate_succ, List.replicate_succ, List.flatten_cons, List.flatten_cons]; exact RepL.append h (RepL.rep h n)
theorem dn_mulL {a b : Expr} {fa fb : M D} {pos : Pos} (ha : DE X W a fa) (hb : DE X W b fb) : DN X W (.BinOp a .Mult b pos) (bnd fa fun d => bnd fb fun e => mulLN d e) := by
  obtain ⟨ta, pa, ra⟩ := ha
  obtain ⟨tb, pb, rb⟩ := hb
  refine ⟨tOp (rMulR X.K) ta tb, pe_op op_mulR pa pb, fun w H σ s Q R p => ?_⟩
  refine ra.bnd R p fun d s1 w1 H1 v1 l1 R1 r1 p1 => ?_
  refine rb.bnd R1 p1 fun e s2 w2 H2 v2 l2 R2 r2 p2 => ?_
  unfold mulLN at p2
  split at p2
  · next xs n hx =>
    split at p2
    · next k =>
      obtain ⟨l, vs, rfl, h1, h2⟩ := R2.list (Rep.up l2 r1) hx
      cases r2
      refine ⟨l, vs, n, rfl, rfl, h1, k.1, k.2.1, by rw [RepL.length h2]; exact k.2.2, fun p hp => ?_⟩
      exact p2 w2 _ _ (Le.laid hp) (R2.laid hp) ⟨p, rfl, (R2.fresh hp).1, (R2.fresh hp).2, ⟨_, upd_same, RepL.rep h2 _⟩, hp⟩
    · exact p2.elim
  · exact p2.elim
theorem x_mulL {xs : List D} {n : Int} {s : S} {d : D} (h : lstOf s d = some xs) (h0 : 0 ≤ n ∧ n ≤ 1000 ∧ xs.length * n.toNat ≤ 256) : mulLN d (.int n) s = .ok (.lst (List.replicate n.toNat xs).flatten) s := by
  unfold mulLN
  rw [h]
  exact if_pos h0
/-! ### sorted(d), a dict with ints as keys, any number of them -/
def rSortedDA (K : PySem.W.Frag) : List V → Hp → VK → Prop := fun vs H Q =>
  ∃ (d : Addr) (pairs : List (Key × V)) (ns : List Int), vs = [V.ref d] ∧ Rd H d (.dK pairs) ∧ pairs.map Prod.fst = ns.map Sum.inl ∧ ns.length ≤ 1000000 ∧
    ∀ p, H p = none → Q (.ref p) (upd H p (.lst ((sortZ ns).map V.int)))
theorem cr_sortedDA (calm : X.calm = true) : CallR X (.builtin "sorted") (rSortedDA X.K) := by
  intro pins s σ H vs us Q I r h
  obtain ⟨d, pairs, ns, rfl, hd, keys, many, q⟩ := h
  rw [Vals.ref1 r]
  obtain ⟨z, low, cells, same, dc⟩ := dk_rd I.hok hd
  obtain ⟨ep, at1⟩ := dc.dictAt
  have keys2 : cells.map Prod.fst = ns.map Sum.inl := same.keys.symm.trans keys
  have size : cells.length = ns.length := by
    simpa using congrArg List.length keys2
  have fits : cells.length ≤ sizeLine := by
    rw [size, sizeLine_eq]; omega
  refine Calls.call_function_entry kind_sorted plain_sorted entry_sorted
    (args_sorted1 _) ?_
  unfold Builtin.«sorted»
  refine wpAny_bind
    (m := checkCount "sorted" 1 1 _)
    (wpAny_pure ?_)
  refine wpAny_bind
    (PySem.W.kdu_collect (A := X.A.in1)
      (PySem.W.kdl_dict (knd := mixKind X.prog X.w)
        (kvs := cells) (ep := ep) low)
      (I.ok.hd calm) at1 fits
      fun heap tk acc kept got => ?_)
  have lenA : acc.toList.length = ns.length := by
    rw [Array.length_toList, got.1, size]
  have hI : IntsAre acc.toList ns := ints_each lenA fun j v e => by
    have e : acc[j]? = some v := by rw [← Array.getElem?_toList]; exact e
    obtain ⟨k, x, e1, e2⟩ := got.2 j v e
    have e3 := congrArg (fun l => l[j]?) keys2
    simp only [List.getElem?_map, e1, Option.map_some] at e3
    cases e4 : ns[j]? with
    | none => rw [e4] at e3; cases e3
    | some y =>
      rw [e4] at e3
      cases e3
      rcases keyIs_shape (show keyIs (Sum.inl y) v = true from e2) with ⟨i, t, ek, ev⟩ | ⟨z, t, ek, ev⟩
      · cases ek
        exact ⟨y, t, rfl, ev⟩
      · cases ek
  have I1 : Inv X pins σ H { s with heap := heap, toks := tk } := I.kept kept
  refine wpAny_bind (wpAny_newList ?_
    (by rw [lenA, sizeLine_eq]; omega))
  obtain ⟨a, ha⟩ : ∃ a, a = heap.objs.size := ⟨_, rfl⟩
  have obj : (heap.push (seqObj "list" acc.toList.toArray 0)).get? a =
      some (seqObj "list" acc.toList.toArray 0) := by
    rw [ha]; exact Heap.get?_push_size _ rfl
  rw [← ha]
  show wpAny _ _ _ _ _ { s with
    heap := heap.push (seqObj "list" acc.toList.toArray 0), toks := tk }
  refine wpAny_bind (wpAny_holding (wpAny_call_entry slot_list_sort ⟨_, obj, rfl⟩
    entry_list_sort
    (SrtO.list_sort_ord SrtO.swo_int obj (by rw [lenA, sizeLine_eq]; omega)
      (fun h2 => SrtO.ints_sortable hI h2)
      fun out h1 h2 => ⟨.none, rfl, ?_⟩) (args_list_sort _)))
  obtain ⟨k1, k2, k3⟩ := SrtO.ints_out hI h1 h2
  obtain ⟨e', he'⟩ := sortedHeap_at (vs := acc.toList) (out := out.toArray) obj
  have same2 : out.map SrtO.iv = sortZ ns := eq_sortZ k2 k3
  have short : ((sortZ ns).map V.int).length ≤ sizeLine := by
    rw [List.length_map, (sortZ_perm ns).length_eq, sizeLine_eq]; omega
  rw [same2] at k1
  refine wpAny_pure ⟨_, rfl, .ref a, upd H a (.lst ((sortZ ns).map V.int)), ?_, rfl,
    q _ (by rw [ha]; exact I1.hok.fresh (Nat.le_refl _))⟩
  rw [ha]
  refine I1.laid (t' := tk) (fun b u e => ?_) (Nat.le_refl _)
    (show ObjOk X.prog X.w _ _ _ (.lst ((sortZ ns).map V.int)) from
      ⟨short, out, e', vals_of_ints k1, by rw [← ha]; exact he'⟩)
  have hb : b < heap.objs.size := Heap.lt_size e
  have hb2 : b < a := by rw [ha]; exact hb
  rw [← ha, sortedHeap_old (Nat.ne_of_lt hb2) (by
    rw [size_push', ← ha]; exact Nat.lt_succ_of_lt hb2)]
  exact Heap.get?_push_of_some _ e
def sortDM : List D → M Cell
  | [d] => fun s => match dctR s d with
    | some kvs => match intKs kvs with
      | some ns => if ns.length ≤ 1000000 then .ok (.lst ((sortZ ns).map D.int)) s else .bad
      | none => .bad
    | none => .bad
  | _ => fail
theorem rc_sortD : RCalN X (rSortedDA X.K) sortDM := by
  intro W w H σ s vs ds Q R r p
  unfold sortDM at p
  split at p
  · next d =>
    obtain ⟨v, rfl, rv⟩ := one_of r
    split at p
    · next kvs he =>
      split at p
      · next ns hn =>
        split at p
        · next hl =>
          obtain ⟨a, us, rfl, h1, h2⟩ := R.dictR rv he
          exact ⟨a, us, ns, rfl, h1, by rw [RepK.keys h2]; exact intKs_of hn, hl, fun q hq => R.giveL (repInts _) p hq⟩
        · exact p.elim
      · exact p.elim
    · exact p.elim
  · exact p.elim
theorem dn_sortDA {e : Expr} {fs : M (List D)} {p pos : Pos} (hm : X.mg "sorted" = none) (ha : DA X W [e] fs) (hc : X.calm = true := by rfl) (hg : Gl X "sorted" := by rfl) (he : starEach [e] X.env = (false, eval e X.env) :: starEach [] X.env := by rfl) (hpl : (backTo pos (starEach [] X.env)).any (·.1) = false := by rfl) :
    DN X W (.Call (.Name "sorted" p) [e] [] pos) (bnd fs sortDM) :=
  dn_callB (cr_sortedDA hc) rc_sortD hm ha (by decide +kernel) hg (by decide) (by decide) he hpl
theorem x_sortDA {n : Nat} {kvs : List (Key × D)} {ns : List Int} {s : S} (h : dctR s (.cell n) = some kvs) (hk : intKs kvs = some ns) (hl : ns.length ≤ 1000000) : sortDM [.cell n] s = .ok (.lst ((sortZ ns).map D.int)) s := by
  unfold sortDM
  dsimp only
  rw [h]
  dsimp only
  rw [hk]
  exact if_pos hl
end Fx

/-! Fx: data that differ are unequal -/
namespace Fx
open PySem PySem.Spec PyProof.Rows L2
mutual
/-- data without truths -/
def nbD : D → Bool
  | .non => true
  | .bl _ => false
  | .int _ => true
  | .str _ => true
  | .tup xs => nbL xs
  | .lst xs => nbL xs
  | .cell _ => false
  | .ref _ => false
  | .pr _ _ => false
  | .emp => false
def nbL : List D → Bool
  | [] => true
  | x :: r => nbD x && nbL r
end
mutual
theorem dq_ne : ∀ (d e : D) (p q : PyData), nbD d = true → nbD e = true → pyT d = some p → pyT e = some q → d ≠ e → PyData.eqv p q = false
  | .non, .non, _, _, _, _, _, _, n => absurd rfl n
  | .non, .int _, _, _, _, _, h1, h2, _ => by cases h1; cases h2; rfl
  | .non, .str _, _, _, _, _, h1, h2, _ => by cases h1; cases h2; rfl
  | .non, .tup xs, p, q, _, _, h1, h2, _ => by
    cases h1
    unfold pyT at h2
    cases e : pyL xs with
    | none => rw [e] at h2; cases h2
    | some y => rw [e] at h2; cases h2; rfl
  | .non, .lst xs, p, q, _, _, h1, h2, _ => by
    cases h1
    unfold pyT at h2
    cases e : pyL xs with
    | none => rw [e] at h2; cases h2
    | some y => rw [e] at h2; cases h2; rfl
  | .int _, .non, _, _, _, _, h1, h2, _ => by cases h1; cases h2; rfl
  | .int i, .int j, _, _, _, _, h1, h2, n => by
    cases h1; cases h2
    have : i ≠ j := fun e => n (by rw [e])
    simp [PyData.eqv, this]
  | .int _, .str _, _, _, _, _, h1, h2, _ => by cases h1; cases h2; rfl
  | .int _, .tup xs, p, q, _, _, h1, h2, _ => by
    cases h1
    unfold pyT at h2
    cases e : pyL xs with
    | none => rw [e] at h2; cases h2
    | some y => rw [e] at h2; cases h2; rfl
  | .int _, .lst xs, p, q, _, _, h1, h2, _ => by
    cases h1
    unfold pyT at h2
    cases e : pyL xs with
    | none => rw [e] at h2; cases h2
    | some y => rw [e] at h2; cases h2; rfl
  | .str _, .non, _, _, _, _, h1, h2, _ => by cases h1; cases h2; rfl
  | .str _, .int _, _, _, _, _, h1, h2, _ => by cases h1; cases h2; rfl
  | .str x, .str y, _, _, _, _, h1, h2, n => by
    cases h1; cases h2
    have : x ≠ y := fun e => n (by rw [e])
    simp [PyData.eqv, this]
  | .str _, .tup xs, p, q, _, _, h1, h2, _ => by
    cases h1
    unfold pyT at h2
    cases e : pyL xs with
    | none => rw [e] at h2; cases h2
    | some y => rw [e] at h2; cases h2; rfl
  | .str _, .lst xs, p, q, _, _, h1, h2, _ => by
    cases h1
    unfold pyT at h2
    cases e : pyL xs with
    | none => rw [e] at h2; cases h2
    | some y => rw [e] at h2; cases h2; rfl
  | .tup xs, e, p, q, a, b, h1, h2, n => by
    unfold pyT at h1
    cases hx : pyL xs with
    | none => rw [hx] at h1; cases h1
    | some y =>
      rw [hx] at h1
      cases h1
      cases e with
      | non => cases h2; rfl
      | int _ => cases h2; rfl
      | str _ => cases h2; rfl
      | bl _ => cases b
      | cell _ => cases b
      | ref _ => cases b
      | pr _ _ => cases b
      | emp => cases b
      | lst zs =>
        unfold pyT at h2
        cases hz : pyL zs with
        | none => rw [hz] at h2; cases h2
        | some w => rw [hz] at h2; cases h2; rfl
      | tup zs =>
        unfold pyT at h2
        cases hz : pyL zs with
        | none => rw [hz] at h2; cases h2
        | some w =>
          rw [hz] at h2
          cases h2
          exact dq_neL xs zs y w a b hx hz fun e => n (by rw [e])
  | .lst xs, e, p, q, a, b, h1, h2, n => by
    unfold pyT at h1
    cases hx : pyL xs with
    | none => rw [hx] at h1; cases h1
    | some y =>
      rw [hx] at h1
      cases h1
      cases e with
      | non => cases h2; rfl
      | int _ => cases h2; rfl
      | str _ => cases h2; rfl
      | bl _ => cases b
      | cell _ => cases b
      | ref _ => cases b
      | pr _ _ => cases b
      | emp => cases b
      | tup zs =>
        unfold pyT at h2
        cases hz : pyL zs with
        | none => rw [hz] at h2; cases h2
        | some w => rw [hz] at h2; cases h2; rfl
      | lst zs =>
        unfold pyT at h2
        cases hz : pyL zs with
        | none => rw [hz] at h2; cases h2
        | some w =>
          rw [hz] at h2
          cases h2
          exact dq_neL xs zs y w a b hx hz fun e => n (by rw [e])
  | .bl _, _, _, _, a, _, _, _, _ => by cases a
  | .cell _, _, _, _, a, _, _, _, _ => by cases a
  | .ref _, _, _, _, a, _, _, _, _ => by cases a
  | .pr _ _, _, _, _, a, _, _, _, _ => by cases a
  | .emp, _, _, _, a, _, _, _, _ => by cases a
  | .non, .bl _, _, _, _, b, _, _, _ => by cases b
  | .non, .cell _, _, _, _, b, _, _, _ => by cases b
  | .non, .ref _, _, _, _, b, _, _, _ => by cases b
  | .non, .pr _ _, _, _, _, b, _, _, _ => by cases b
  | .non, .emp, _, _, _, b, _, _, _ => by cases b
  | .int _, .bl _, _, _, _, b, _, _, _ => by cases b
  | .int _, .cell _, _, _, _, b, _, _, _ => by cases b
  | .int _, .ref _, _, _, _, b, _, _, _ => by cases b
  | .int _, .pr _ _, _, _, _, b, _, _, _ => by cases b
  | .int _, .emp, _, _, _, b, _, _, _ => by cases b
  | .str _, .bl _, _, _, _, b, _, _, _ => by cases b
  | .str _, .cell _, _, _, _, b, _, _, _ => by cases b
  | .str _, .ref _, _, _, _, b, _, _, _ => by cases b
  | .str _, .pr _ _, _, _, _, b, _, _, _ => by cases b
  | .str _, .emp, _, _, _, b, _, _, _ => by cases b
theorem dq_neL : ∀ (xs ys : List D) (ps qs : List PyData), nbL xs = true → nbL ys = true → pyL xs = some ps → pyL ys = some qs → xs ≠ ys → PyData.eqvAll ps qs = false
  | [], [], _, _, _, _, _, _, n => absurd rfl n
  | [], y :: ys, ps, qs, _, _, h1, h2, _ => by
    cases h1
    unfold pyL at h2
    split at h2
    · cases h2; rfl
    · cases h2
  | x :: xs, [], ps, qs, _, _, h1, h2, _ => by
    cases h2
    unfold pyL at h1
    split at h1
    · cases h1; rfl
    · cases h1
  | x :: xs, y :: ys, ps, qs, a, b, h1, h2, n => by
    have a : (nbD x && nbL xs) = true := a
    have b : (nbD y && nbL ys) = true := b
    rw [Bool.and_eq_true] at a b
    unfold pyL at h1 h2
    split at h1
    · next p1 ps1 e1 e2 =>
      cases h1
      split at h2
      · next q1 qs1 e3 e4 =>
        cases h2
        show (PyData.eqv p1 q1 && PyData.eqvAll ps1 qs1) = false
        rcases Classical.em (x = y) with z | z
        · have : xs ≠ ys := fun e => n (by rw [z, e])
          rw [dq_neL xs ys ps1 qs1 a.2 b.2 e2 e4 this, Bool.and_false]
        · rw [dq_ne x y p1 q1 a.1 b.1 e1 e3 z, Bool.false_and]
      · cases h2
    · cases h1
end
theorem eqD_ne {d e : D} {s : S} (h : Eqd 64 d) (k : Eqd 64 e) (a : nbD d = true) (b : nbD e = true) (n : d ≠ e) : eqD d e s = .ok (.bl false) s ∧ neD d e s = .ok (.bl true) s := by
  obtain ⟨p, h1, h2, h3, h4⟩ := dq_self d h.1
  obtain ⟨q, k1, k2, k3, k4⟩ := dq_self e k.1
  have h5 : pyD s d = some p := by
    cases d with
    | cell n => cases h1
    | _ => exact h1
  have k5 : pyD s e = some q := by
    cases e with
    | cell n => cases k1
    | _ => exact k1
  have h6 : SeqAt.shaped p = true := by
    unfold SeqAt.shaped
    rw [h2, h4]
    exact decide_eq_true h.2
  have k6 : SeqAt.shaped q = true := by
    unfold SeqAt.shaped
    rw [k2, k4]
    exact decide_eq_true k.2
  unfold eqD neD
  rw [h5, k5]
  dsimp only
  rw [h6, k6, dq_ne d e p q a b h1 k1 n]
  exact ⟨rfl, rfl⟩
theorem x_eqNe {d e : D} {s : S} (h : Eqd 64 d) (k : Eqd 64 e) (a : nbD d = true) (b : nbD e = true) (n : d ≠ e) : eqM d e s = .ok (.bl false) s := by
  unfold eqM
  split
  · next x y =>
    show Res.ok _ _ = _
    rw [decide_eq_false fun e => n (by rw [e])]
  · exact (eqD_ne h k a b n).1
theorem x_neNe {d e : D} {s : S} (h : Eqd 64 d) (k : Eqd 64 e) (a : nbD d = true) (b : nbD e = true) (n : d ≠ e) : neM d e s = .ok (.bl true) s := by
  unfold neM
  split
  · next x y =>
    show Res.ok _ _ = _
    rw [decide_eq_false fun e => n (by rw [e])]
    rfl
  · exact (eqD_ne h k a b n).2
theorem x_eqCNe {n : Nat} {ds es : List D} {s : S} (h : s.vh[n]? = some (.lst ds)) (k : Eqd 64 (.lst ds)) (k2 : Eqd 64 (.lst es)) (a : nbD (.lst ds) = true) (b : nbD (.lst es) = true) (q : D.lst ds ≠ .lst es) : eqM (.cell n) (.lst es) s = .ok (.bl false) s := by
  show eqD (.cell n) (.lst es) s = _
  have := (eqD_ne (s := s) k k2 a b q).1
  unfold eqD at this ⊢
  rw [pyD_cellL h]
  exact this
theorem x_neCNe {n : Nat} {ds es : List D} {s : S} (h : s.vh[n]? = some (.lst ds)) (k : Eqd 64 (.lst ds)) (k2 : Eqd 64 (.lst es)) (a : nbD (.lst ds) = true) (b : nbD (.lst es) = true) (q : D.lst ds ≠ .lst es) : neM (.cell n) (.lst es) s = .ok (.bl true) s := by
  show neD (.cell n) (.lst es) s = _
  have := (eqD_ne (s := s) k k2 a b q).2
  unfold neD at this ⊢
  rw [pyD_cellL h]
  exact this
theorem nbL_all : ∀ {ds : List D}, (∀ d ∈ ds, nbD d = true) → nbL ds = true
  | [], _ => rfl
  | d :: ds, h => by unfold nbL; rw [h d List.mem_cons_self, nbL_all fun e he => h e (List.mem_cons_of_mem _ he)]; rfl
/-! a, b, c, d = t -/
section
variable {X : Cx}
def unp4 (i j k l : Nat) (d : D) : M Out := fun s => match d with
  | .tup [x, y, z, v] => .ok .nx { s with loc := (((s.loc.set i (some x)).set j (some y)).set k (some z)).set l (some v) }
  | _ => .bad
theorem dg_four {i j k l : Nat} {x y z v : Str} {kk : Nat} {p1 p2 p3 p4 pos : Pos} (hc : X.calm = true) (hN : X.N.Nodup) (hi : X.N[i]? = some x := by rfl) (hj : X.N[j]? = some y := by rfl) (hk : X.N[k]? = some z := by rfl) (hl : X.N[l]? = some v := by rfl)
    (hx : Loc X.env.scope x := by first | exact Or.inl rfl | exact Or.inr rfl) (hy : Loc X.env.scope y := by first | exact Or.inl rfl | exact Or.inr rfl) (hz : Loc X.env.scope z := by first | exact Or.inl rfl | exact Or.inr rfl) (hv : Loc X.env.scope v := by first | exact Or.inl rfl | exact Or.inr rfl)
    (hfx : X.fn x = true ∨ X.env.scope.names.lookup x = some .local := by first | exact .inl rfl | exact .inr rfl) (hfy : X.fn y = true ∨ X.env.scope.names.lookup y = some .local := by first | exact .inl rfl | exact .inr rfl) (hfz : X.fn z = true ∨ X.env.scope.names.lookup z = some .local := by first | exact .inl rfl | exact .inr rfl) (hfv : X.fn v = true ∨ X.env.scope.names.lookup v = some .local := by first | exact .inl rfl | exact .inr rfl)
    (hn : (assignEach [.Name x p1, .Name y p2, .Name z p3, .Name v p4] X.env).length = 4 := by rfl) (hst : (assignEach [.Name x p1, .Name y p2, .Name z p3, .Name v p4] X.env).findIdx? (·.1) = none := by rfl)
    (hs1 : (assignEach [.Name x p1, .Name y p2, .Name z p3, .Name v p4] X.env).map (·.2) = assign (.Name x p1) X.env :: (assignEach [.Name y p2, .Name z p3, .Name v p4] X.env).map (·.2) := by rfl)
    (hs2 : (assignEach [.Name y p2, .Name z p3, .Name v p4] X.env).map (·.2) = assign (.Name y p2) X.env :: (assignEach [.Name z p3, .Name v p4] X.env).map (·.2) := by rfl)
    (hs3 : (assignEach [.Name z p3, .Name v p4] X.env).map (·.2) = assign (.Name z p3) X.env :: (assignEach [.Name v p4] X.env).map (·.2) := by rfl)
    (hs4 : (assignEach [.Name v p4] X.env).map (·.2) = assign (.Name v p4) X.env :: (assignEach [] X.env).map (·.2) := by rfl) :
    DG X (.Tuple [.Name x p1, .Name y p2, .Name z p3, .Name v p4] kk pos) (unp4 i j k l) := by
  refine ⟨_, pg_tup hc (pgs_cons (pg_name hN hi hx hfx) (pgs_cons (pg_name hN hj hy hfy) (pgs_cons (pg_name hN hk hz hfz) (pgs_cons (pg_name hN hl hv hfv) pgs_nil hs4) hs3) hs2) hs1) hn hst, fun w H σ s v d Q R r p => ?_⟩
  unfold unp4 at p
  split at p
  · next d1 d2 d3 d4 =>
    obtain ⟨a, vs, rfl, h1, h2⟩ := R.tuple r (ds := [d1, d2, d3, d4]) rfl
    cases h2 with
    | cons r1 t1 =>
      cases t1 with
      | cons r2 t2 =>
        cases t2 with
        | cons r3 t3 =>
          cases t3 with
          | cons r4 t4 =>
            cases t4
            exact ⟨a, _, rfl, h1, rfl, _, _, rfl, _, _, rfl, _, _, rfl, _, _, rfl, rfl, p w H _ (Le.refl _ _) ((((R.set r1).set r2).set r3).set r4)⟩
  · exact p.elim
theorem unp4_ok {i j k l : Nat} (d : D) (s : S) : (∃ s', unp4 i j k l d s = .ok .nx s') ∨ unp4 i j k l d s = .bad := by
  unfold unp4
  split
  · exact .inl ⟨_, rfl⟩
  · exact .inr rfl
theorem x_unp4 {i j k l : Nat} {x y z v : D} {s : S} : unp4 i j k l (.tup [x, y, z, v]) s = .ok .nx ⟨(((s.loc.set i (some x)).set j (some y)).set k (some z)).set l (some v), s.vh⟩ := nr rfl
end
end Fx

/-! lists of instances: the same ones at every place make equal lists -/
namespace L2
open PySem PySem.Spec
section
variable {X : Cx}
def rEqS (K : PySem.W.Frag) : R2 := fun x y H Q => ∃ a b xs, x = .ref a ∧ y = .ref b ∧ SqL K H a xs ∧ SqL K H b xs ∧ (∀ v ∈ xs, ∃ c, v = V.ref c) ∧ Q (.bl true) H
theorem valsRefs : ∀ {vs : List V} {us ws : List Value}, (∀ v ∈ vs, ∃ c, v = V.ref c) → Vals vs us → Vals vs ws → us = ws
  | [], _, _, _, r, q => by cases r; cases q; rfl
  | v :: vs, _, _, h, r, q => by
    cases r with
    | cons r1 r2 =>
      cases q with
      | cons q1 q2 =>
        obtain ⟨c, e⟩ := h v List.mem_cons_self
        subst e
        cases r1
        cases q1
        rw [valsRefs (fun v hv => h v (List.mem_cons_of_mem _ hv)) r2 q2]
theorem op_eqS (hu : X.A.units + 64 < cLine) : OpR X (compareOp .Eq) (rEqS X.K) := by
  intro pins s σ H x y v u Q I rx ry h
  obtain ⟨a, b, xs, rfl, rfl, h1, h2, h3, q⟩ := h
  cases rx
  cases ry
  obtain ⟨its, rv, hl, _⟩ := I.list h1
  obtain ⟨its', rv', hl', _⟩ := I.list h2
  have e := valsRefs h3 rv rv'
  subst e
  have k := SeqAt.RcAt.lists (A := X.A) hl.isList hl'.isList rfl (by omega) (e := fun _ => true) fun j _ _ => SeqAt.EqAt.same _
  rw [show (List.range its.toArray.size).all (fun _ => true) = true by simp] at k
  exact k _ _ _ _ ⟨.bl _, H, I, rfl, q⟩
def rNeS (K : PySem.W.Frag) : R2 := fun x y H Q => ∃ a b xs, x = .ref a ∧ y = .ref b ∧ SqL K H a xs ∧ SqL K H b xs ∧ (∀ v ∈ xs, ∃ c, v = V.ref c) ∧ Q (.bl false) H
theorem op_neS (hu : X.A.units + 64 < cLine) : OpR X (compareOp .NotEq) (rNeS X.K) := by
  intro pins s σ H x y v u Q I rx ry h
  obtain ⟨a, b, xs, rfl, rfl, h1, h2, h3, q⟩ := h
  cases rx
  cases ry
  obtain ⟨its, rv, hl, _⟩ := I.list h1
  obtain ⟨its', rv', hl', _⟩ := I.list h2
  have e := valsRefs h3 rv rv'
  subst e
  have k := SeqAt.RcNeAt.lists (A := X.A) hl.isList hl'.isList rfl (by omega) (e := fun _ => true) fun j _ _ => SeqAt.EqAt.same _
  rw [show (List.range its.toArray.size).all (fun _ => true) = true by simp] at k
  exact k _ _ _ _ ⟨.bl _, H, I, rfl, q⟩
end
end L2
namespace Fx
open PySem PySem.Spec L2
def idsOf : List D → Option (List Nat)
  | [] => some []
  | .cell n :: r => (idsOf r).map (n :: ·)
  | _ => none
def lstIds (s : S) : D → Option (List Nat)
  | .lst xs => idsOf xs
  | .cell n => match s.vh[n]? with
    | some (.lst xs) => idsOf xs
    | _ => none
  | _ => none
def eqSM (d e : D) : M D := fun s => match lstIds s d, lstIds s e with
  | some xs, some ys => if xs = ys then .ok (.bl true) s else .bad
  | _, _ => .bad
section
variable {X : Cx} {K : PySem.W.Frag} {w : Wd} {H : Hp} {σ : L2.St} {s : S}
theorem idsOf_rep : ∀ {ds es : List D} {ns : List Nat} {vs us : List V}, idsOf ds = some ns → idsOf es = some ns → RepL K w vs ds → RepL K w us es → vs = us ∧ ∀ v ∈ vs, ∃ c, v = V.ref c
  | [], [], _, _, _, _, _, r, q => by cases r; cases q; exact ⟨rfl, fun v hv => (by cases hv)⟩
  | [], e :: es, ns, _, _, h1, h2, _, _ => by
    unfold idsOf at h1
    cases h1
    cases e <;> (unfold idsOf at h2; first | cases h2 | (cases k : idsOf es <;> rw [k] at h2 <;> cases h2))
  | d :: ds, [], ns, _, _, h1, h2, _, _ => by
    unfold idsOf at h2
    cases h2
    cases d <;> (unfold idsOf at h1; first | cases h1 | (cases k : idsOf ds <;> rw [k] at h1 <;> cases h1))
  | d :: ds, e :: es, ns, _, _, h1, h2, r, q => by
    obtain ⟨m, ms, e1, k1, hn⟩ : ∃ m ms, d = .cell m ∧ idsOf ds = some ms ∧ ns = m :: ms := by
      cases d <;> (unfold idsOf at h1; first | cases h1 | skip)
      cases k : idsOf ds with
      | none => rw [k] at h1; cases h1
      | some ms => rw [k] at h1; cases h1; exact ⟨_, ms, rfl, rfl, rfl⟩
    subst e1 hn
    obtain ⟨e2, k2⟩ : e = .cell m ∧ idsOf es = some ms := by
      cases e <;> (unfold idsOf at h2; first | cases h2 | skip)
      cases k : idsOf es with
      | none => rw [k] at h2; cases h2
      | some ms => rw [k] at h2; cases h2; exact ⟨rfl, rfl⟩
    subst e2
    cases r with
    | cons r1 r2 =>
      cases q with
      | cons q1 q2 =>
        cases r1 with
        | cell r1 =>
          cases q1 with
          | cell q1 =>
            rw [r1] at q1
            cases q1
            obtain ⟨a1, a2⟩ := idsOf_rep k1 k2 r2 q2
            subst a1
            refine ⟨rfl, fun v hv => ?_⟩
            rcases List.mem_cons.mp hv with z | z
            · exact ⟨_, z⟩
            · exact a2 v z
theorem lstIds_rep (R : RS K w H σ s) {v : V} {d : D} {ns : List Nat} (r : Rep K w v d) (h : lstIds s d = some ns) : ∃ a vs ds, v = .ref a ∧ SqL K H a vs ∧ RepL K w vs ds ∧ idsOf ds = some ns := by
  cases r with
  | @cell a n h1 =>
    obtain ⟨c, e, hc⟩ := R.cellOf h1
    unfold lstIds at h
    simp only [e] at h
    cases c with
    | lst ds =>
      obtain ⟨vs, h3, h4⟩ := hc
      exact ⟨_, vs, ds, rfl, SqL.of h3, h4, h⟩
    | _ => cases h
  | lst h1 t => exact ⟨_, _, _, rfl, sqL_up R.sub h1, t, h⟩
  | _ => cases h
theorem rop_eqS : ROp X (rEqS X.K) eqSM := by
  intro W w H σ s x y d e Q R rx ry p
  unfold eqSM at p
  split at p
  · next p1 q1 h1 h2 =>
    split at p
    · next k =>
      subst k
      obtain ⟨a, vs, ds, e1, s1, r1, k1⟩ := lstIds_rep R rx h1
      obtain ⟨b, us, es, e2, s2, r2, k2⟩ := lstIds_rep R ry h2
      obtain ⟨e3, al⟩ := idsOf_rep k1 k2 r1 r2
      subst e3
      exact ⟨a, b, vs, e1, e2, s1, s2, al, Post.here p R (Rep.bl _)⟩
    · exact p.elim
  · exact p.elim
end
def neSM (d e : D) : M D := fun s => match lstIds s d, lstIds s e with
  | some xs, some ys => if xs = ys then .ok (.bl false) s else .bad
  | _, _ => .bad
theorem rop_neS {X : Cx} : ROp X (rNeS X.K) neSM := by
  intro W w H σ s x y d e Q R rx ry p
  unfold neSM at p
  split at p
  · next p1 q1 h1 h2 =>
    split at p
    · next k =>
      subst k
      obtain ⟨a, vs, ds, e1, s1, r1, k1⟩ := lstIds_rep R rx h1
      obtain ⟨b, us, es, e2, s2, r2, k2⟩ := lstIds_rep R ry h2
      obtain ⟨e3, al⟩ := idsOf_rep k1 k2 r1 r2
      subst e3
      exact ⟨a, b, vs, e1, e2, s1, s2, al, Post.here p R (Rep.bl _)⟩
    · exact p.elim
  · exact p.elim
theorem idsOf_map : ∀ ns : List Nat, idsOf (ns.map D.cell) = some ns
  | [] => rfl
  | n :: ns => by rw [List.map_cons]; unfold idsOf; rw [idsOf_map ns]; rfl
theorem x_eqS1 {ns : List Nat} {n : Nat} {s : S} (h : s.vh[n]? = some (.lst (ns.map D.cell))) : eqSM (.lst (ns.map D.cell)) (.cell n) s = .ok (.bl true) s := by
  unfold eqSM lstIds
  simp only [h, idsOf_map, if_true]
theorem x_eqS2 {ns : List Nat} {s : S} : eqSM (.lst (ns.map D.cell)) (.lst (ns.map D.cell)) s = .ok (.bl true) s := by
  unfold eqSM lstIds
  simp only [idsOf_map, if_true]
theorem x_neS1 {ns : List Nat} {n : Nat} {s : S} (h : s.vh[n]? = some (.lst (ns.map D.cell))) : neSM (.lst (ns.map D.cell)) (.cell n) s = .ok (.bl false) s := by
  unfold neSM lstIds
  simp only [h, idsOf_map, if_true]
theorem x_neS2 {ns : List Nat} {s : S} : neSM (.lst (ns.map D.cell)) (.lst (ns.map D.cell)) s = .ok (.bl false) s := by
  unfold neSM lstIds
  simp only [idsOf_map, if_true]
end Fx

/-! Fx: zip of a tuple and a list -/
namespace Fx
open PySem PySem.Spec PyProof.Rows L2
variable {X : Cx} {W : WX}
/-- a tuple at a, a list at b, their items in new pairs -/
def ItzM (K : PySem.W.Frag) (a b : Addr) : It where
  go i H := ∃ (ps qs : List V) (p q : V), (SqT K H a ps ∧ ps[i]? = some p) ∧ SqL K H b qs ∧ qs[i]? = some q
  yld i H v H' := ∃ T p q, (v = .ref T ∧ H T = none) ∧ H' = upd H T (.tup [p, q]) ∧ (∀ ps, SqT K H a ps → ps[i]? = some p) ∧ ∀ qs, SqL K H b qs → qs[i]? = some q
  stop i H := ∃ ps qs : List V, (SqT K H a ps ∧ SqL K H b qs) ∧ (ps.length ≤ i ∨ qs.length ≤ i)
theorem sepM {z TI TO i1 i2 a b : Addr} (D : ZipApart z TI TO i1 i2 a b) : ZipSep2 z TI TO i1 i2 [i1, a] [i2, b] := by
  have two : ∀ {x y w : Addr}, x ≠ y → x ≠ w → x ∉ [y, w] := fun h h2 hm => by
    rcases List.mem_cons.mp hm with e | e
    · exact h e
    · exact h2 (List.mem_singleton.mp e)
  exact { TIz := D.TIz, TOz := D.TOz, TITO := D.TITO, TIi1 := D.TIi1, TIi2 := D.TIi2, mem1 := List.mem_cons_self, mem2 := List.mem_cons_self,
          zf1 := two (Ne.symm D.i1z) (Ne.symm D.l1z), Tf1 := two D.TOi1 (Ne.symm D.l1TO), zf2 := two (Ne.symm D.i2z) (Ne.symm D.l2z), Tf2 := two D.TOi2 (Ne.symm D.l2TO),
          sep1_2 := two D.i12 (Ne.symm D.l2i1), sep2_1 := two (Ne.symm D.i12) (Ne.symm D.l1i2) }
/-- iterators that have come to their end, wherever -/
theorem endT {prog : Program} {w : World} {A : Around} (hh : A.handled = none) {it t : Addr} {items : Array Value} {i : Nat} (hx : items[i]? = none) :
    Draws prog w A it [it, t] i (fun _ _ => True) (fun j h => j = i ∧ h.IsTupleIter it t i ∧ h.IsTuple t items) := by
  refine ⟨fun _ _ st => ?_, fun _ _ _ st k => ⟨st.1, st.2.1.at fun o e => k it (by simp) o e, st.2.2.at fun o e => k t (by simp) o e⟩, fun j s Q E hj st _ => absurd st.1 (Nat.ne_of_lt hj), fun s Q E st hE => wpAny_nextOf_tuple_end hh st.2.1 st.2.2 hx hE⟩
  obtain ⟨o, ho, _⟩ := st.2.1
  exact ⟨o, ho⟩
theorem endL {prog : Program} {w : World} {A : Around} (hh : A.handled = none) {it l : Addr} {items : Array Value} {i : Nat} (hx : items[i]? = none) :
    Draws prog w A it [it, l] i (fun _ _ => True) (fun j h => j = i ∧ h.IsListIter it l i ∧ h.IsList l items) := by
  refine ⟨fun _ _ st => ?_, fun _ _ _ st k => ⟨st.1, st.2.1.at fun o e => k it (by simp) o e, st.2.2.at fun o e => k l (by simp) o e⟩, fun j s Q E hj st _ => absurd st.1 (Nat.ne_of_lt hj), fun s Q E st hE => wpAny_nextOf_list_end hh st.2.1 st.2.2 hx hE⟩
  obtain ⟨o, ho, _⟩ := st.2.1
  exact ⟨o, ho⟩
/-- the cells of such a zip at turn i -/
structure ZipMAt (z TI TO i1 i2 a b : Addr) (i : Nat) (h : Heap) : Prop where
  zp : IsZip h z TI TO .none
  ti : IsTupOf2 h TI (.ref i1) (.ref i2)
  to : ∃ x y, IsTupOf2 h TO x y
  t1 : h.IsTupleIter i1 a i
  t2 : h.IsListIter i2 b i
theorem five {c z TI TO i1 i2 : Addr} (h : c ∈ [z, TI, TO, i1, i2]) : c = z ∨ c = TI ∨ c = TO ∨ c = i1 ∨ c = i2 := by simpa using h
theorem turn_zipM {P : Program} {w : World} {K : PySem.W.Frag} {elts : List Expr} {kk : Nat} {tpos : Pos} {a b z TI TO i1 i2 : Addr} (D : ZipApart z TI TO i1 i2 a b) :
    Turn P w K (.Tuple elts kk tpos) (ItzM K a b) [z, TI, TO, i1, i2] z (ZipMAt z TI TO i1 i2 a b) := by
  have S := sepM D
  have out : ∀ {s h' : Heap}, (∀ c o, c ≠ z → c ≠ TO → c ≠ i1 → c ≠ i2 → s.get? c = some o → h'.get? c = some o) → ∀ c o, c ∉ [z, TI, TO, i1, i2] → s.get? c = some o → h'.get? c = some o := fun k c o hc e =>
    k c o (fun x => hc (by rw [x]; simp)) (fun x => hc (by rw [x]; simp)) (fun x => hc (by rw [x]; simp)) (fun x => hc (by rw [x]; simp)) e
  refine ⟨by simp, fun i h st c hc => ?_, fun i h h' st k => ?_, ?_, ?_, fun A i s Q E st h => wpAny_pyIter_zip st.zp h⟩
  · obtain ⟨⟨x, y, hTO⟩, ⟨o1, e1, _, d1⟩, ⟨o2, e2, _, d2⟩⟩ := And.intro st.to (And.intro st.t1 st.t2)
    rcases five hc with e | e | e | e | e <;> subst e
    · exact ⟨_, st.zp, fun v q => nomatch q⟩
    · exact ⟨_, st.ti, fun v q => nomatch q⟩
    · exact ⟨_, hTO, fun v q => nomatch q⟩
    · exact ⟨o1, e1, fun v q => by rw [d1] at q; cases q⟩
    · exact ⟨o2, e2, fun v q => by rw [d2] at q; cases q⟩
  · obtain ⟨x, y, hTO⟩ := st.to
    exact ⟨k z (by simp) _ st.zp, k TI (by simp) _ st.ti, ⟨x, y, k TO (by simp) _ hTO⟩, st.t1.at fun o q => k i1 (by simp) o q, st.t2.at fun o q => k i2 (by simp) o q⟩
  · intro X hP hw hK hc i pins s σ H E I hf st hg
    subst hP hw hK
    obtain ⟨ps, qs, p, q, ⟨hps, hp⟩, hqs, hq⟩ := hg
    obtain ⟨us, ru, tu, _⟩ := I.tuple hps
    obtain ⟨vs, rv, tv, _⟩ := I.list hqs
    obtain ⟨u, hu, ru1⟩ := ru.get hp
    obtain ⟨v, hv, rv1⟩ := rv.get hq
    obtain ⟨x0, y0, hTO⟩ := st.to
    have hh : X.A.in1.handled = none := by have := I.ok.hd hc; simp [this]
    have D1 := Draws.tuple (prog := X.prog) (w := X.w) hh i1 a D.l1i1 us.toArray
    have D2 := Draws.list (prog := X.prog) (w := X.w) hh i2 b D.l2i2 vs.toArray
    have zl : z < s.heap.objs.size := Heap.lt_size st.zp
    have lu : i < us.toArray.size := by have := (List.getElem?_eq_some_iff.mp hu).1; simpa using this
    have lv : i < vs.toArray.size := by have := (List.getElem?_eq_some_iff.mp hv).1; simpa using this
    refine wpAny_pyNext_zipD2_item S D1 D2 st.zp st.ti hTO (i := i) ⟨st.t1, tu⟩ ⟨st.t2, tv.isList⟩ lu lv fun x y h1 tk ex ey nz nTO n1 n2 nT nsz kept => ?_
    have ex : u = x := by have h2 : us[i]? = some x := by simpa using ex
                          rw [hu] at h2; exact Option.some.inj h2
    have ey : v = y := by have h2 : vs[i]? = some y := by simpa using ey
                          rw [hv] at h2; exact Option.some.inj h2
    subst ex ey
    refine ⟨_, rfl, wpAny_letOwnedTupleGo_zip (s := { s with heap := h1, toks := tk }) nz fun h2 nz2 sb => ?_⟩
    have far : ∀ c, c ∈ [z, TI, TO, i1, i2] → c < s.heap.objs.size := fun c hm => by
      obtain ⟨⟨o1, g1, _⟩, ⟨o2, g2, _⟩⟩ := And.intro st.t1 st.t2
      rcases five hm with e | e | e | e | e <;> subst e
      · exact zl
      · exact Heap.lt_size st.ti
      · exact Heap.lt_size hTO
      · exact Heap.lt_size g1
      · exact Heap.lt_size g2
    have keep2 : ∀ c o, c ≠ z → h1.get? c = some o → h2.get? c = some o := fun c o hz e => (sb.2 c hz).trans e
    have nT2 : h2.get? s.heap.objs.size = some { cls := .type "tuple", data := .seq #[u, v] } := keep2 _ _ (Nat.ne_of_gt zl) nT
    have new : ObjOk X.prog X.w (upd H s.heap.objs.size (.tup [p, q])) h2 s.heap.objs.size (.tup [p, q]) :=
      ⟨by show 2 ≤ sizeLine; decide, [u, v], .cons ru1 (.cons rv1 .nil), ⟨_, nT2, rfl, _, rfl⟩⟩
    have I2 : Inv X pins σ (upd H s.heap.objs.size (.tup [p, q])) { s with heap := h2, toks := tk } :=
      I.turnedNew (ch := [z, TI, TO, i1, i2]) (fun c o hm e => keep2 c o (fun x => hm (by rw [x]; simp)) (out kept c o hm e)) hf (Nat.le_refl _) new
    refine ⟨.ref s.heap.objs.size, _, I2, rfl, ⟨_, p, q, ⟨rfl, I.hok.fresh (Nat.le_refl _)⟩, rfl, fun l hl => ?_, fun l hl => ?_⟩, ⟨nz2, keep2 _ _ D.TIz (kept _ _ D.TIz D.TITO D.TIi1 D.TIi2 st.ti), ⟨u, v, keep2 _ _ D.TOz nTO⟩, n1.1.at fun o e => keep2 _ o D.i1z e, n2.1.at fun o e => keep2 _ o D.i2z e⟩, fun c hm => ?_⟩
    · rw [I.tuple_inj hl hps]; exact hp
    · rw [I.list_inj hl hqs]; exact hq
    · rw [upd_ne (Nat.ne_of_lt (far c hm))]; exact (hf c hm).1
  · intro X hP hw hK hc i pins s σ H E I hf st hg
    subst hP hw hK
    obtain ⟨ps, qs, ⟨hps, hqs⟩, hend⟩ := hg
    obtain ⟨us, ru, tu, _⟩ := I.tuple hps
    obtain ⟨vs, rv, tv, _⟩ := I.list hqs
    obtain ⟨x0, y0, hTO⟩ := st.to
    have hh : X.A.in1.handled = none := by have := I.ok.hd hc; simp [this]
    have lu := ru.length
    have lv := rv.length
    have fin : ∀ (h1 : Heap) (tk : Nat), (∀ c o, c ≠ z → c ≠ TO → c ≠ i1 → c ≠ i2 → s.heap.get? c = some o → h1.get? c = some o) → (none : Option Value) = none ∧ Inv X pins σ H { s with heap := h1, toks := tk } := fun h1 tk k =>
      ⟨rfl, I.turnedL (ch := [z, TI, TO, i1, i2]) (out k) hf⟩
    have tvl := tv.isList
    by_cases c1 : i < us.length
    · have c2 : ¬ i < vs.length := fun c2 => by omega
      have D1 := Draws.tuple (prog := X.prog) (w := X.w) hh i1 a D.l1i1 us.toArray
      have D2 := endL (prog := X.prog) (w := X.w) (it := i2) (l := b) hh (items := vs.toArray) (i := i) (by simp; omega)
      exact wpAny_pyNext_zipD2_end S D1 D2 st.zp st.ti hTO (i := i) ⟨st.t1, tu⟩ ⟨rfl, st.t2, tvl⟩ (by simp; omega) (Nat.le_refl _) (.inr rfl) fin
    · have D1 := endT (prog := X.prog) (w := X.w) (it := i1) (t := a) hh (items := us.toArray) (i := i) (by simp; omega)
      by_cases c2 : i < vs.length
      · have D2 := Draws.list (prog := X.prog) (w := X.w) hh i2 b D.l2i2 vs.toArray
        exact wpAny_pyNext_zipD2_end S D1 D2 st.zp st.ti hTO (i := i) ⟨rfl, st.t1, tu⟩ ⟨st.t2, tvl⟩ (Nat.le_refl _) (by simp; omega) (.inl rfl) fin
      · have D2 := endL (prog := X.prog) (w := X.w) (it := i2) (l := b) hh (items := vs.toArray) (i := i) (by simp; omega)
        exact wpAny_pyNext_zipD2_end S D1 D2 st.zp st.ti hTO (i := i) ⟨rfl, st.t1, tu⟩ ⟨rfl, st.t2, tvl⟩ (Nat.le_refl _) (Nat.le_refl _) (.inl rfl) fin
/-- zip(t, l) -/
def iZipM (K : PySem.W.Frag) (ta : TA) : TI := fun σ H R => ta σ H fun vs H1 => ∃ a b ps qs, (vs = [.ref a, .ref b] ∧ SqT K H1 a ps) ∧ SqL K H1 b qs ∧ R (ItzM K a b) H1
theorem pi_zipM {e e2 : Expr} {ta : TA} {p pos tpos : Pos} {elts : List Expr} {kk : Nat} (hg : Gl X "zip") (hm : X.mg "zip" = none) (ha : PA X [e, e2] ta)
    (hs : starEach [e, e2] X.env = (false, eval e X.env) :: starEach [e2] X.env) (hpl : (backTo pos (starEach [e2] X.env)).any (·.1) = false) :
    PI X (.Tuple elts kk tpos) (.Call (.Name "zip" p) [e, e2] [] pos) (iZipM X.K ta) := by
  constructor
  intro pins s σ H R I h
  refine Call_ (ld_blt I hg hm PyProof.Rows.boot_zip (PyProof.Rows.callWith_type1 (thn (ha.run pos pins s σ H _ I h) fun us s1 ⟨vs, H1, I1, r1, q1⟩ => ?_) hs hpl))
  obtain ⟨a, b, ps, qs, ⟨ev, hps⟩, hqs, hR⟩ := q1
  subst ev
  obtain ⟨u, us2, rfl, ru, r2⟩ : ∃ u us2, us = u :: us2 ∧ RelV (.ref a) u ∧ Vals [.ref b] us2 := by
    cases r1 with
    | cons r rr => exact ⟨_, _, rfl, r, rr⟩
  obtain ⟨v, rfl, rv⟩ : ∃ v, us2 = [v] ∧ RelV (.ref b) v := by
    cases r2 with
    | cons r rr => cases rr; exact ⟨_, rfl, r⟩
  cases ru
  cases rv
  obtain ⟨its, _, tu, _⟩ := I1.tuple hps
  obtain ⟨its2, _, tl, _⟩ := I1.list hqs
  have tu2 : s1.heap.IsTuple a its.toArray := tu
  have tl2 := tl.isList
  have la : a < s1.heap.objs.size := let ⟨o, ho, _⟩ := tu2; Heap.lt_size ho
  have D := PySem.W.ktu_apart s1.heap.objs.size a b la tl.lt
  refine zip_begins2 (begins_tuple a its.toArray) (begins_list b its2.toArray) tu2 tl2 fun h1 nz nTI nTO n1 n2 _ kept => wpAny_pyIter_zip nz ?_
  have I2 : Inv X pins σ H1 { s1 with heap := h1 } := I1.kept (t' := s1.toks) kept
  refine ⟨_, [s1.heap.objs.size + 4, s1.heap.objs.size + 2, s1.heap.objs.size + 3, s1.heap.objs.size, s1.heap.objs.size + 1], _, _, H1, rfl, I2, turn_zipM D, ⟨nz, nTI, ⟨_, _, nTO⟩, ⟨_, n1, rfl, rfl⟩, ⟨_, n2, rfl, rfl⟩⟩, fun c hm => ?_, hR⟩
  have old : ∀ d, s1.heap.objs.size ≤ d → FpOk X pins H1 d := fun d hd => I1.fpOk hd (I1.hok.fresh hd)
  rcases five hm with e | e | e | e | e <;> subst e
  · exact old _ (Nat.le_add_right _ _)
  · exact old _ (Nat.le_add_right _ _)
  · exact old _ (Nat.le_add_right _ _)
  · exact old _ (Nat.le_refl _)
  · exact old _ (Nat.le_add_right _ _)
noncomputable def zipM : List D → M Wk
  | [a, b] => fun s => match tupOf a, lstOf s b with
    | some xs, some ys => .ok ⟨List.zipWith D.pr xs ys, fun s' => lstOf s' b = some ys⟩ s
    | _, _ => .bad
  | _ => fun _ => .bad
theorem pI_zipM {K : PySem.W.Frag} {w0 : Wd} {a b : Addr} {d e : D} {xs ys : List D} (ra : Rep K w0 (.ref a) d) (rb : Rep K w0 (.ref b) e) (k1 : tupOf d = some xs) : wkI K w0 (ItzM K a b) ⟨List.zipWith D.pr xs ys, fun s' => lstOf s' e = some ys⟩ := by
  intro w H σ s l R hok i
  have hok : lstOf s e = some ys := hok
  obtain ⟨_, vs, e1, h1, h2⟩ := R.tuple (ra.upW l) k1
  cases e1
  obtain ⟨_, us, e2, h3, h4⟩ := R.list (rb.upW l) hok
  cases e2
  have ln : (List.zipWith D.pr xs ys).length = min xs.length ys.length := List.length_zipWith
  refine ⟨fun hi => ?_, fun hi => ⟨vs, us, ⟨h1, h3⟩, ?_⟩, fun x H' hy d' hd => ?_⟩
  · have hi : i < (List.zipWith D.pr xs ys).length := hi
    obtain ⟨v, hv, _⟩ := RepL.get h2 (List.getElem?_eq_getElem (show i < xs.length by omega))
    obtain ⟨u, hu, _⟩ := RepL.get h4 (List.getElem?_eq_getElem (show i < ys.length by omega))
    exact ⟨vs, us, v, u, ⟨h1, hv⟩, h3, hu⟩
  · have hi : (List.zipWith D.pr xs ys).length ≤ i := hi
    have := RepL.length h2
    have := RepL.length h4
    omega
  · obtain ⟨T, x1, y1, ⟨rfl, nT⟩, rfl, f1, f2⟩ := hy
    have hd : (List.zipWith D.pr xs ys)[i]? = some d' := hd
    have il := (List.getElem?_eq_some_iff.mp hd).1
    have v1 : xs[i]? = some xs[i] := List.getElem?_eq_getElem (by omega)
    have v2 : ys[i]? = some ys[i] := List.getElem?_eq_getElem (by omega)
    rw [List.getElem?_zipWith, v1, v2] at hd
    cases hd
    obtain ⟨u1, hu1, r1⟩ := RepL.get h2 v1
    obtain ⟨u2, hu2, r2⟩ := RepL.get h4 v2
    have g1 := f1 vs h1
    have g2 := f2 us h3
    rw [hu1] at g1
    rw [hu2] at g2
    cases g1
    cases g2
    obtain ⟨l2, R2, r⟩ := R.newP nT r1 r2
    exact ⟨_, l2, R2, r⟩
theorem di_zipM {es : List Expr} {kk : Nat} {tpos : Pos} {a b : Expr} {f : M (List D)} {p pos : Pos} (hm : X.mg "zip" = none) (h : DA X W [a, b] f) (hg : Gl X "zip" := by rfl)
    (hs : starEach [a, b] X.env = (false, eval a X.env) :: starEach [b] X.env := by rfl) (hpl : (backTo pos (starEach [b] X.env)).any (·.1) = false := by rfl) :
    DI X W (.Tuple es kk tpos) (.Call (.Name "zip" p) [a, b] [] pos) (bnd f zipM) := by
  obtain ⟨t, q, r⟩ := h
  refine ⟨_, pi_zipM hg hm q hs hpl, fun w H σ s R0 R z => ?_⟩
  refine r.bnd R z fun ds s1 w1 H1 vs l1 R1 r1 p1 => ?_
  unfold zipM at p1
  split at p1
  · next d e =>
    split at p1
    · next xs ys hx hy =>
      cases r1 with
      | cons ra rr =>
        cases rr with
        | cons rb r3 =>
          cases r3
          obtain ⟨a', vs, e1, q1, q2⟩ := R1.tuple ra hx
          subst e1
          obtain ⟨b', us, e2, q3, q4⟩ := R1.list rb hy
          subst e2
          exact ⟨a', b', vs, us, ⟨rfl, q1⟩, q3, p1 w1 H1 _ (Le.refl _ _) R1 (pI_zipM ra rb hx)⟩
    · exact p1.elim
  · exact p1.elim
theorem di_alt {tg e : Expr} {f g : M Wk} (h1 : DI X W tg e f) (h2 : DI X W tg e g) : DI X W tg e (altM f g) := by
  obtain ⟨t1, p1, r1⟩ := h1
  obtain ⟨t2, p2, r2⟩ := h2
  refine ⟨_, PI.or p1 p2, fun w H σ s R0 R z => ?_⟩
  rcases alt_is f g s with q | q
  · rw [q] at z; exact .inl (r1 w H σ s R0 R z)
  · rw [q] at z; exact .inr (r2 w H σ s R0 R z)
theorem x_zipM {xs ys : List D} {s : S} : zipM [.tup xs, .lst ys] s = .ok ⟨List.zipWith D.pr xs ys, fun s' => lstOf s' (.lst ys) = some ys⟩ s := nr rfl
theorem x_zipMC {xs ys : List D} {n : Nat} {s : S} (h : s.vh[n]? = some (.lst ys)) : zipM [.tup xs, .cell n] s = .ok ⟨List.zipWith D.pr xs ys, fun s' => lstOf s' (.cell n) = some ys⟩ s := by
  unfold zipM tupOf lstOf
  dsimp only
  rw [h]
end Fx

/-! Fx: sorted(a tuple of texts) -/
namespace Fx
open PySem PySem.Spec PyProof.Rows L2
variable {X : Cx} {W : WX}
def rSortedTA (K : PySem.W.Frag) : List V → Hp → VK → Prop := fun vs H Q => ∃ (a : Addr) (xs : List Str), vs = [V.ref a] ∧ SqT K H a (xs.map V.str) ∧ ∀ p, H p = none → Q (.ref p) (upd H p (.lst ((sortT xs).map V.str)))
theorem cr_sortedTA (hu : X.A.units + 64 < cLine) : CallR X (.builtin "sorted") (rSortedTA X.K) := by
  intro pins s σ H vs us Q I r h
  obtain ⟨a, xs, rfl, hs, q⟩ := h
  obtain ⟨its, rv, ⟨o, ho, hc, n, hd⟩, hz⟩ := I.tuple hs
  rw [Vals.ref1 r]
  have e := each_strs rv.strs
  rw [List.length_map] at hz
  have hl2 : its.length = xs.length := e.length
  refine Calls.call_function_entry kind_sorted plain_sorted entry_sorted (args_sorted1 _) ?_
  unfold Builtin.«sorted»
  refine wpAny_bind (m := checkCount "sorted" 1 1 _) (wpAny_pure ?_)
  refine wpAny_bind (wpAny_collect_seq a (.inr rfl) ho hc hd (fun heap kept => ?_) (by rw [List.size_toArray, hl2]; exact hz))
  have I1 : Inv X pins σ H { s with heap := heap } := I.kept kept
  refine wpAny_bind (wpAny_newList ?_ (by rw [List.toList_toArray, hl2]; exact hz))
  obtain ⟨b, hb⟩ : ∃ b, b = heap.objs.size := ⟨_, rfl⟩
  have obj : (heap.push (seqObj "list" its.toArray.toList.toArray 0)).get? b = some (seqObj "list" its.toArray.toList.toArray 0) := by
    rw [hb]; exact Heap.get?_push_size _ rfl
  rw [← hb]
  rw [List.toList_toArray] at obj
  have e2 : (PySem.W.dataLe false fun x : Str => PyData.str x) = leT := by
    rw [PySem.W.dataLe_str (fun x : Str => x)]
    funext a b
    unfold leT
    rw [PySem.W.not_lt_str]
  show wpAny _ _ _ _ _ { s with heap := heap.push (seqObj "list" its.toArray.toList.toArray 0) }
  rw [List.toList_toArray]
  refine wpAny_bind (wpAny_holding (PySem.W.list_sort_data (enc := fun x : Str => PyData.str x) obj e (e.mono fun v x ⟨t, h⟩ => ⟨[], by rw [h]; exact .str x t, (fun h => by cases h)⟩) (PySem.W.AllAlike.of fun _ _ => rfl) (PySem.W.Sortable.others fun b => ⟨(by intro z; cases z), (by intro xs z; cases z)⟩) hz (fun b _ => ?_) fun out h1 h2 => ?_))
  · show X.A.units + 1 + 1 + 0 < cLine
    omega
  · rw [e2] at h2
    have h2 : PySem.W.EachIs (fun v x => ∃ t, v = Value.str x t) out (sortT xs) := h2
    obtain ⟨e', he'⟩ := sortedHeap_at (vs := its) (out := out.toArray) obj
    have hlen : ((sortT xs).map V.str).length ≤ sizeLine := by rw [List.length_map, (sortT_perm xs).length_eq]; exact hz
    refine wpAny_pure ⟨_, rfl, .ref b, upd H b (.lst ((sortT xs).map V.str)), ?_, rfl, q _ (by rw [hb]; exact I1.hok.fresh (Nat.le_refl _))⟩
    rw [hb]
    refine I1.laid (t' := s.toks) (fun d u e => ?_) (Nat.le_refl _)
      (show ObjOk X.prog X.w _ _ _ (.lst ((sortT xs).map V.str)) from
        ⟨hlen, out, e', vals_of_strs (strs_each h2), by rw [← hb]; exact he'⟩)
    have hb1 : d < heap.objs.size := Heap.lt_size e
    have hb2 : d < b := by rw [hb]; exact hb1
    rw [← hb, sortedHeap_old (Nat.ne_of_lt hb2) (by rw [size_push', ← hb]; exact Nat.lt_succ_of_lt hb2)]
    exact Heap.get?_push_of_some _ e
def sortTM : List D → M Cell
  | [.tup ds] => fun s => match strsOf ds with
      | some xs => .ok (.lst ((sortT xs).map D.str)) s
      | none => .bad
  | _ => fail
theorem rc_sortT : RCalN X (rSortedTA X.K) sortTM := by
  intro W w H σ s vs ds Q R r p
  unfold sortTM at p
  split at p
  · next es =>
    obtain ⟨v, rfl, rv⟩ := one_of r
    split at p
    · next ns hn =>
      obtain ⟨a, us, rfl, h1, h2⟩ := R.tuple rv (ds := es) rfl
      rw [strs_rep h2 hn] at h1
      exact ⟨a, ns, rfl, h1, fun q hq => R.giveL (repStrs _) p hq⟩
    · exact p.elim
  · exact p.elim
theorem dn_sortT {e : Expr} {fs : M (List D)} {p pos : Pos} (hu : X.A.units + 64 < cLine) (hm : X.mg "sorted" = none) (ha : DA X W [e] fs) (hc : X.calm = true := by rfl) (hg : Gl X "sorted" := by rfl) (he : starEach [e] X.env = (false, eval e X.env) :: starEach [] X.env := by rfl) (hpl : (backTo pos (starEach [] X.env)).any (·.1) = false := by rfl) :
    DN X W (.Call (.Name "sorted" p) [e] [] pos) (bnd fs sortTM) :=
  dn_callB (cr_sortedTA hu) rc_sortT hm ha (by decide +kernel) hg (by decide) (by decide) he hpl
theorem x_sortTM {xs : List Str} {s : S} : sortTM [.tup (xs.map D.str)] s = .ok (.lst ((sortT xs).map D.str)) s := by
  unfold sortTM
  dsimp only
  rw [show strsOf (xs.map D.str) = some xs by
    induction xs with
    | nil => rfl
    | cons x r ih => rw [List.map_cons, strsOf, ih]; rfl]
/-! ### a > b, texts -/
def gtSM : D → D → M D
  | .str a, .str b => ret (.bl (decide (b.cps.toList < a.cps.toList)))
  | _, _ => fail
theorem rop_gtS : ROp X (fun x y H Q => ∃ i j, x = .str i ∧ y = .str j ∧ Q (.bl (decide (j.cps.toList < i.cps.toList))) H) gtSM := by
  intro W w H σ s x y d e Q R rx ry p
  unfold gtSM at p
  split at p
  · cases rx; cases ry; exact ⟨_, _, rfl, rfl, Post.here p R (Rep.bl _)⟩
  · exact p.elim
theorem x_gtS {a b : Str} {s : S} : gtSM (.str a) (.str b) s = .ok (.bl (decide (b.cps.toList < a.cps.toList))) s := rfl
end Fx

/-! Fx: sorted(a dict of ints, reverse=True) -/
namespace Fx
open PySem PySem.Spec PyProof.Rows L2
variable {X : Cx} {W : WX}
def rSortedDR (K : PySem.W.Frag) : List V → List V → Hp → VK → Prop := fun vs zs H Q =>
  ∃ (d : Addr) (pairs : List (Key × V)) (ns : List Int), vs = [V.ref d] ∧ zs = [.bl true] ∧ Rd H d (.dK pairs) ∧ pairs.map Prod.fst = ns.map Sum.inl ∧ ns.length ≤ 1000000 ∧
    ∀ (ns' : List Int) (p : Addr), ns'.Perm ns → ns'.Pairwise (· ≥ ·) → H p = none → Q (.ref p) (upd H p (.lst (ns'.map V.int)))
theorem cr_sortedDR (calm : X.calm = true) : CallRK X (.builtin "sorted") [Str.ofString "reverse"] (rSortedDR X.K) := by
  intro pins s σ H vs zs us ws Q I r rz h
  obtain ⟨d, pairs, ns, rfl, rfl, hd, keys, many, q⟩ := h
  obtain rfl := Vals.ref1 r
  obtain ⟨w1, rfl, e1⟩ := vals1 rz
  obtain rfl : w1 = Value.bool true := e1
  obtain ⟨z, low, cells, same, dc⟩ := dk_rd I.hok hd
  obtain ⟨ep, at1⟩ := dc.dictAt
  have keys2 : cells.map Prod.fst = ns.map Sum.inl := same.keys.symm.trans keys
  have size : cells.length = ns.length := by
    simpa using congrArg List.length keys2
  have fits : cells.length ≤ sizeLine := by
    rw [size, sizeLine_eq]; omega
  refine call_function_entry_kw kind_sorted plain_sorted entry_sorted (PyProof.Rows.args_sorted_rev _ _) ?_
  unfold Builtin.«sorted»
  refine wpAny_bind
    (m := checkCount "sorted" 1 1 _)
    (wpAny_pure ?_)
  refine wpAny_bind
    (PySem.W.kdu_collect (A := X.A.in1)
      (PySem.W.kdl_dict (knd := mixKind X.prog X.w)
        (kvs := cells) (ep := ep) low)
      (I.ok.hd calm) at1 fits
      fun heap tk acc kept got => ?_)
  have lenA : acc.toList.length = ns.length := by
    rw [Array.length_toList, got.1, size]
  have hI : IntsAre acc.toList ns := ints_each lenA fun j v e => by
    have e : acc[j]? = some v := by rw [← Array.getElem?_toList]; exact e
    obtain ⟨k, x, e1, e2⟩ := got.2 j v e
    have e3 := congrArg (fun l => l[j]?) keys2
    simp only [List.getElem?_map, e1, Option.map_some] at e3
    cases e4 : ns[j]? with
    | none => rw [e4] at e3; cases e3
    | some y =>
      rw [e4] at e3
      cases e3
      rcases keyIs_shape (show keyIs (Sum.inl y) v = true from e2) with ⟨i, t, ek, ev⟩ | ⟨z, t, ek, ev⟩
      · cases ek
        exact ⟨y, t, rfl, ev⟩
      · cases ek
  have I1 : Inv X pins σ H { s with heap := heap, toks := tk } := I.kept kept
  refine wpAny_bind (wpAny_newList ?_
    (by rw [lenA, sizeLine_eq]; omega))
  obtain ⟨a, ha⟩ : ∃ a, a = heap.objs.size := ⟨_, rfl⟩
  have obj : (heap.push (seqObj "list" acc.toList.toArray 0)).get? a =
      some (seqObj "list" acc.toList.toArray 0) := by
    rw [ha]; exact Heap.get?_push_size _ rfl
  rw [← ha]
  show wpAny _ _ _ _ _ { s with
    heap := heap.push (seqObj "list" acc.toList.toArray 0), toks := tk }
  refine wpAny_bind (wpAny_holding (wpAny_call_entry_kw slot_list_sort ⟨_, obj, rfl⟩ entry_list_sort (list_sort_tree_revAny obj hI (by rw [lenA, sizeLine_eq]; omega) fun out ns' a1 a2 a3 => ⟨_, rfl, ?_⟩) (PyProof.Rows.args_list_sort_rev _ _)))
  obtain ⟨e', he'⟩ := sortedHeap_at (vs := acc.toList) (out := out) obj
  have short : (ns'.map V.int).length ≤ sizeLine := by
    rw [List.length_map, a2.length_eq, sizeLine_eq]; omega
  have a3 : ns'.Pairwise (· ≥ ·) := a3
  refine wpAny_pure ⟨_, rfl, .ref a, upd H a (.lst (ns'.map V.int)), ?_, rfl,
    q _ _ a2 a3 (by rw [ha]; exact I1.hok.fresh (Nat.le_refl _))⟩
  rw [ha]
  refine I1.laid (t' := tk) (fun b u e => ?_) (Nat.le_refl _)
    (show ObjOk X.prog X.w _ _ _ (.lst (ns'.map V.int)) from
      ⟨short, out.toList, e', vals_of_ints a1, by rw [← ha]; exact he'⟩)
  have hb : b < heap.objs.size := Heap.lt_size e
  have hb2 : b < a := by rw [ha]; exact hb
  rw [← ha, sortedHeap_old (Nat.ne_of_lt hb2) (by
    rw [size_push', ← ha]; exact Nat.lt_succ_of_lt hb2)]
  exact Heap.get?_push_of_some _ e
def sortDR : D → M Cell := fun d s => match dctR s d with
  | some kvs => match intKs kvs with
    | some ns => if ns.length ≤ 1000000 then .ok (.lst ((sortZ ns).reverse.map D.int)) s else .bad
    | none => .bad
  | none => .bad
theorem rev_sortZ {ns ns' : List Int} (hp : ns'.Perm ns) (hs : ns'.Pairwise (· ≥ ·)) : ns' = (sortZ ns).reverse := by
  have h1 : ns'.reverse.Perm ns := (List.reverse_perm ns').trans hp
  have h2 : ns'.reverse.Pairwise (· ≤ ·) := List.pairwise_reverse.mpr hs
  rw [← eq_sortZ h1 h2, List.reverse_reverse]
theorem dn_sortDR {e : Expr} {fe : M D} {p p2 kp pos : Pos} {j} (hm : X.mg "sorted" = none) (he' : DE X W e fe) (hc : X.calm = true := by rfl) (hg : Gl X "sorted" := by rfl)
    (hs : starEach [e] X.env = (false, eval e X.env) :: starEach [] X.env := by rfl) (he : backTo pos (starEach [e] X.env) = (false, eval e X.env) :: backTo pos (starEach [] X.env) := by rfl) (hpl : (backTo pos (starEach [e] X.env)).any (·.1) = false := by rfl) :
    DN X W (.Call (.Name "sorted" p) [e] [⟨some "reverse", .Constant (.bool true) j p2, kp⟩] pos) (bnd fe sortDR) := by
  obtain ⟨t, q, r⟩ := he'
  refine ⟨_, pe_callBK (cr_sortedDR hc) hg hm rfl (pa_cons q pa_nil hs) (pk_cons pe_bl pk_nil) (by decide) (by decide) he hpl, fun w H σ s Q R z => ?_⟩
  show t σ H fun v H1 => rSortedDR X.K [v] [.bl true] H1 Q
  refine r.bnd R z fun d s1 w1 H1 v l1 R1 r1 p1 => ?_
  unfold sortDR at p1
  split at p1
  · next kvs hd =>
    split at p1
    · next ns hn =>
      split at p1
      · next hl =>
        obtain ⟨a, us, rfl, h1, h2⟩ := R1.dictR r1 hd
        refine ⟨a, us, ns, rfl, rfl, h1, by rw [RepK.keys h2]; exact intKs_of hn, hl, fun ns' p hp hs hq => ?_⟩
        rw [rev_sortZ hp hs]
        exact R1.giveL (repInts _) p1 hq
      · exact p1.elim
    · exact p1.elim
  · exact p1.elim
theorem x_sortDR {n : Nat} {kvs : List (Key × D)} {ns : List Int} {s : S} (h : dctR s (.cell n) = some kvs) (hk : intKs kvs = some ns) (hl : ns.length ≤ 1000000) : sortDR (.cell n) s = .ok (.lst ((sortZ ns).reverse.map D.int)) s := by
  unfold sortDR
  rw [h]
  dsimp only
  rw [hk]
  exact if_pos hl
end Fx

/-! Fx: sorted(d.items()), d a dict of texts -/
namespace Fx
open PySem PySem.Spec PyProof.Rows L2
variable {X : Cx} {W : WX}
/-- an item of a dict as a tuple of its own -/
structure It where
  k : Str
  a : Addr
  o : Obj
  v : V
noncomputable def itKind (ps : List (Value × Str)) : PyProof.Rows.KeyKind where
  toKeyOrd := PyProof.Rows.listOrd PyProof.Rows.itemOrd
  keyOf v := open Classical in if q : ∃ k, (v, k) ∈ ps then some (PySem.W.keyToks (.str q.choose)) else none
  dflt := ([] : List (Int ⊕ List Nat))
def itPs (its : List It) : List (Value × Str) := its.map fun i => (Value.ref i.a, i.k)
theorem itPs_inj {its : List It} (nd : (its.map It.a).Nodup) {i j : It} (hi : i ∈ its) (hj : j ∈ its) (h : i.a = j.a) : i = j := by
  induction its with
  | nil => cases hi
  | cons x r ih =>
    rw [List.map_cons, List.nodup_cons] at nd
    obtain ⟨n1, n2⟩ := nd
    rcases List.mem_cons.mp hi with e1 | i1
    · rcases List.mem_cons.mp hj with e2 | j1
      · rw [e1, e2]
      · exact absurd (List.mem_map.mpr ⟨j, j1, by rw [← h, e1]⟩) n1
    · rcases List.mem_cons.mp hj with e2 | j1
      · exact absurd (List.mem_map.mpr ⟨i, i1, by rw [h, e2]⟩) n1
      · exact ih n2 i1 j1
theorem itPs_key {its : List It} (nd : (its.map It.k).Nodup) {i j : It} (hi : i ∈ its) (hj : j ∈ its) (h : i.k = j.k) : i = j := by
  induction its with
  | nil => cases hi
  | cons x r ih =>
    rw [List.map_cons, List.nodup_cons] at nd
    obtain ⟨n1, n2⟩ := nd
    rcases List.mem_cons.mp hi with e1 | i1
    · rcases List.mem_cons.mp hj with e2 | j1
      · rw [e1, e2]
      · exact absurd (List.mem_map.mpr ⟨j, j1, by rw [← h, e1]⟩) n1
    · rcases List.mem_cons.mp hj with e2 | j1
      · exact absurd (List.mem_map.mpr ⟨i, i1, by rw [h, e2]⟩) n1
      · exact ih n2 i1 j1
theorem itKind_some {its : List It} (nd : (its.map It.a).Nodup) {i : It} (hi : i ∈ its) : (itKind (itPs its)).keyOf (.ref i.a) = some (PySem.W.keyToks (.str i.k)) := by
  have q : ∃ k, (Value.ref i.a, k) ∈ itPs its := ⟨i.k, List.mem_map.mpr ⟨i, hi, rfl⟩⟩
  have e : (itKind (itPs its)).keyOf (.ref i.a) = some (PySem.W.keyToks (.str q.choose)) := by
    show (open Classical in if q : ∃ k, (Value.ref i.a, k) ∈ itPs its then some (PySem.W.keyToks (.str q.choose)) else none) = _
    rw [dif_pos q]
  obtain ⟨j, hj, ej⟩ := List.mem_map.mp q.choose_spec
  have e1 : j.a = i.a := by injection (Prod.mk.inj ej).1
  have e2 := itPs_inj nd hj hi e1
  rw [e, ← (Prod.mk.inj ej).2, e2]
theorem itKind_inv {its : List It} {v : Value} {k : List (Int ⊕ List Nat)} (e : (itKind (itPs its)).keyOf v = some k) : ∃ i ∈ its, v = .ref i.a ∧ k = PySem.W.keyToks (.str i.k) := by
  by_cases q : ∃ k, (v, k) ∈ itPs its
  · have e' : (itKind (itPs its)).keyOf v = some (PySem.W.keyToks (.str q.choose)) := by
      show (open Classical in if q : ∃ k, (v, k) ∈ itPs its then some (PySem.W.keyToks (.str q.choose)) else none) = _
      rw [dif_pos q]
    obtain ⟨j, hj, ej⟩ := List.mem_map.mp q.choose_spec
    rw [e'] at e
    exact ⟨j, hj, (Prod.mk.inj ej).1.symm, by rw [(Prod.mk.inj ej).2]; exact (Option.some.inj e).symm⟩
  · have e' : (itKind (itPs its)).keyOf v = none := by
      show (open Classical in if q : ∃ k, (v, k) ∈ itPs its then some (PySem.W.keyToks (.str q.choose)) else none) = _
      rw [dif_neg q]
      rfl
    rw [e'] at e
    cases e
def ItOk (h : Heap) (i : It) : Prop := ∃ (t : Tok) (x : Value) (n : Nat), h.get? i.a = some i.o ∧ i.o.cls = .type "tuple" ∧ i.o.data = .seq #[.str i.k t, x] n
theorem it_tups {h : Heap} : ∀ {its : List It}, (∀ i ∈ its, ItOk h i) → ∃ fs, PySem.W.KatTups h (its.map fun i => Value.ref i.a) fs ∧ fs.length = its.length ∧ ∀ f ∈ fs, ∃ k t, f = Value.str k t
  | [], _ => ⟨[], PySem.W.KatTups.nil, rfl, fun f hf => by cases hf⟩
  | i :: r, H => by
    obtain ⟨fs, h1, h2, h3⟩ := it_tups fun j hj => H j (List.mem_cons_of_mem _ hj)
    obtain ⟨t, x, n, e1, e2, e3⟩ := H i List.mem_cons_self
    refine ⟨.str i.k t :: fs, PySem.W.KatTups.cons e1 e2 e3 rfl h1, by rw [List.length_cons, List.length_cons, h2], fun f hf => ?_⟩
    rcases List.mem_cons.mp hf with rfl | hf
    · exact ⟨_, _, rfl⟩
    · exact h3 f hf
theorem its_sort {prog : Program} {w : World} {A : Around} {s : Shared} {its : List It} (nda : (its.map It.a).Nodup) (ndk : (its.map It.k).Nodup) (ok : ∀ i ∈ its, ItOk s.heap i) (hu : A.units + 2 < cLine) :
    PySem.W.SortsAt prog w A s (itKind (itPs its)) (its.map fun i => Value.ref i.a) := by
  refine ⟨fun v hv => ?_, tuples' true, ?_, fun h2 E Q hq => ?_⟩
  · obtain ⟨i, hi, rfl⟩ := List.mem_map.mp hv
    exact ⟨_, itKind_some nda hi⟩
  · intro E x y a b Q ha hb hq
    obtain ⟨i, hi, rfl, rfl⟩ := itKind_inv ha
    obtain ⟨j, hj, rfl, rfl⟩ := itKind_inv hb
    have hq' : Q (PySem.W.dataLt (.str i.k) (.str j.k)) s := hq
    obtain ⟨t, x, n, e1, e2, e3⟩ := ok i hi
    obtain ⟨u, y, m, g1, g2, g3⟩ := ok j hj
    refine PySem.W.kat_lt e1 e3 g1 g3 ?_
    show PySem.W.KatLex prog w A true (decide (2 < 2)) Q [(Value.str i.k t, Value.str j.k u), (x, y)] 0 s
    refine PySem.W.kat_cons (wpAny_eqBool_str ?_)
    by_cases c : i.k = j.k
    · rw [decide_eq_true c]
      refine PySem.W.kat_yes ?_
      have e := itPs_key ndk hi hj c
      subst e
      rw [e1] at g1
      rw [e3] at g3
      have xy : x = y := by
        have h1 : (#[Value.str i.k t, x] : Array Value) = #[.str i.k u, y] := by injection g3
        have h2 := congrArg (fun z : Array Value => z.toList) h1
        have h3 : [Value.str i.k t, x] = [Value.str i.k u, y] := h2
        exact (List.cons.inj (List.cons.inj h3).2).1
      subst xy
      refine PySem.W.kat_cons (SeqAt.EqAt.same x _ _ _ _ (PySem.W.kat_yes (PySem.W.kat_nil ?_)))
      rw [show PySem.W.dataLt (.str i.k) (.str i.k) = false from PyProof.Rows.lex_irrefl _] at hq'
      exact hq'
    · rw [decide_eq_false c]
      refine PySem.W.kat_no (PySem.W.oneLt_alike (fun _ xs h => by cases h) (.str _ _) (.str _ _) rfl (fun h => by cases h) (Nat.lt_of_le_of_lt (Nat.add_le_add_left (Nat.le_trans (Nat.min_le_left _ _) (Nat.zero_le 2)) _) hu) hq')
  · obtain ⟨fs, t1, t2, t3⟩ := it_tups ok
    rw [List.length_map] at h2
    refine PySem.W.kat_kind (T := .type "str") t1 (by omega) (fun f hf => ?_) (beq_self_eq_true _) hq
    obtain ⟨k, t, rfl⟩ := t3 f hf
    exact PySem.W.Looks.of_pure rfl
/-! many tuples and a list, laid at once -/
def putF : Hp → List It → Hp
  | H, i :: is => putF (upd H i.a (.frz i.o (.tup [.str i.k, i.v]))) is
  | H, [] => H
theorem putF_off {b : Addr} : ∀ (is : List It) (H : Hp), b ∉ is.map It.a → putF H is b = H b
  | [], _, _ => rfl
  | i :: is, H, h => by
    rw [List.map_cons, List.mem_cons, not_or] at h
    show putF (upd H i.a _) is b = H b
    rw [putF_off is _ h.2, upd_ne h.1]
theorem putF_at : ∀ (is : List It) (H : Hp), (is.map It.a).Nodup → ∀ i ∈ is, putF H is i.a = some (.frz i.o (.tup [.str i.k, i.v]))
  | [], _, _, i, hi => by cases hi
  | j :: is, H, nd, i, hi => by
    rw [List.map_cons, List.nodup_cons] at nd
    show putF (upd H j.a _) is i.a = _
    by_cases c : i ∈ is
    · exact putF_at is _ nd.2 i c
    · rcases List.mem_cons.mp hi with rfl | hi
      · rw [putF_off is _ nd.1, upd_same]
      · exact absurd hi c
theorem its_laid {pins : List (Addr × Obj)} {σ : L2.St} {H : Hp} {s : Shared} {h' : Heap} {tk : Nat} {its : List It} {b : Addr} {xs : List V} (I : Inv X pins σ H s)
    (hk : ∀ c o, s.heap.get? c = some o → h'.get? c = some o) (nd : (its.map It.a).Nodup) (lo : ∀ i ∈ its, s.heap.objs.size ≤ i.a) (hb : s.heap.objs.size ≤ b) (hbn : b ∉ its.map It.a)
    (ok : ∀ i ∈ its, ItOk h' i ∧ i.o.dict = none ∧ ∃ us : List Value, Vals [.str i.k, i.v] us ∧ IsTup h' i.a us.toArray)
    (okl : ∀ H', ObjOk X.prog X.w H' h' b (.lst xs)) :
    ∃ H' : Hp, (∀ c o, H c = some o → H' c = some o) ∧ H b = none ∧ (∀ i ∈ its, H i.a = none ∧ H' i.a = some (.frz i.o (.tup [.str i.k, i.v]))) ∧ H' b = some (.lst xs) ∧ Inv X pins σ H' { s with heap := h', toks := tk } := by
  have new : ∀ i ∈ its, H i.a = none := fun i hi => I.hok.fresh (lo i hi)
  have newB : H b = none := I.hok.fresh hb
  have atP := putF_at its (upd H b (.lst xs)) nd
  have off : ∀ c, c ∉ its.map It.a → c ≠ b → putF (upd H b (.lst xs)) its c = H c := fun c h1 h2 => by rw [putF_off its _ h1, upd_ne h2]
  have low : ∀ c o, s.heap.get? c = some o → c ∉ its.map It.a ∧ c ≠ b := fun c o e => ⟨fun z => by
    obtain ⟨i, hi, rfl⟩ := List.mem_map.mp z
    exact absurd (Heap.lt_size e) (Nat.not_lt.mpr (lo i hi)), fun z => by
    subst z
    exact absurd (Heap.lt_size e) (Nat.not_lt.mpr hb)⟩
  have kp : ∀ c u, H c = some u → putF (upd H b (.lst xs)) its c = some u := fun c u e => by
    rw [off c (fun z => by
      obtain ⟨i, hi, rfl⟩ := List.mem_map.mp z
      rw [new i hi] at e; cases e) (fun z => by rw [z, newB] at e; cases e)]
    exact e
  have eB : putF (upd H b (.lst xs)) its b = some (.lst xs) := by rw [putF_off its _ hbn, upd_same]
  refine ⟨putF (upd H b (.lst xs)) its, kp, newB, fun i hi => ⟨new i hi, atP i hi⟩, eB, ?_⟩
  refine I.call' (ch := []) rfl ⟨fun c o q _ _ _ => hk c o q, fun c o q _ _ _ => ⟨o.slots, hk c o q⟩, fun c o q n _ => ?_, fun c o q _ => ⟨o, hk c o q⟩, fun c xs q => kp c _ q, fun c o u q => kp c _ q, fun c ps q => ⟨#[], by rw [kp c _ q]; simp⟩⟩ (fun c u q => ?_) I.bare fun c z => by simp at z
  · obtain ⟨z1, z2⟩ := low c o q
    rw [off c z1 z2]
    exact n
  · by_cases hc : c ∈ its.map It.a
    · obtain ⟨i, hi, rfl⟩ := List.mem_map.mp hc
      rw [atP i hi] at q
      cases q
      obtain ⟨⟨_, _, _, g1, _, _⟩, g2, us, g3, g4⟩ := ok i hi
      exact ⟨g1, by show 2 ≤ sizeLine; decide, us, g3, g4⟩
    · by_cases hc2 : c = b
      · rw [hc2] at q ⊢
        rw [eB] at q
        cases q
        exact okl _
      · rw [off c hc hc2] at q
        exact (I.hok c u q).stay (fun d v _ y => hk d v y) (fun d y => kp d _ y) fun d xs y => kp d _ y
/-! ### the rule -/
def leI (a b : It) : Bool := leT a.k b.k
def rSortItems (K : PySem.W.Frag) : V → Hp → VK → Prop := fun x H Q => ∃ (d : Addr) (kvs : List (Key × V)) (ks : List Str), x = .ref d ∧ Rd H d (.dK kvs) ∧ kvs.map Prod.fst = ks.map Sum.inr ∧
  ∀ (H' : Hp) (p : Addr) (its : List It), (∀ b o, H b = some o → H' b = some o) → H p = none → H' p = some (.lst ((its.mergeSort leI).map fun i => V.ref i.a)) → p ∉ its.map It.a →
    (its.map fun i => ((Sum.inr i.k : Key), i.v)) = kvs → (∀ i ∈ its, H i.a = none ∧ i.o.dict = none ∧ H' i.a = some (.frz i.o (.tup [.str i.k, i.v]))) → Q (.ref p) H'
def tSortItems (K : PySem.W.Frag) (te : TE) : TE := fun σ H Q => te σ H fun x H1 => rSortItems K x H1 Q
theorem its_of {kvs : List (Key × V)} {ks : List Str} {cells : List (Key × Value)} {as : List Addr} {h : Heap} {lo : Addr} {prog : Program} {w : World} (kv : KV kvs cells) (keys : kvs.map Prod.fst = ks.map Sum.inr) (hl : as.length = cells.length) (hG : PySem.W.KdxG (mixKind prog w) cells lo h as) :
    ∃ its : List It, its.map It.a = as ∧ (its.map fun i => ((Sum.inr i.k : Key), i.v)) = kvs ∧ ∀ i ∈ its, ItOk h i ∧ i.o.dict = none ∧ ∃ us : List Value, Vals [.str i.k, i.v] us ∧ IsTup h i.a us.toArray := by
  have pr := hG.pairs
  clear hG
  induction kv generalizing ks as with
  | nil =>
    cases as with
    | nil => exact ⟨[], rfl, rfl, fun i hi => by cases hi⟩
    | cons a r => cases hl
  | @cons p q kvs cells hpq t ih =>
    cases as with
    | nil => cases hl
    | cons a as =>
      cases ks with
      | nil => cases keys
      | cons k ks =>
        rw [List.map_cons, List.map_cons] at keys
        obtain ⟨e1, e2⟩ := List.cons.inj keys
        obtain ⟨its, h1, h2, h3⟩ := ih e2 (Nat.succ.inj hl) fun j b hb => by
          obtain ⟨key, k', x, f1, f2, f3⟩ := pr (j + 1) b hb
          exact ⟨key, k', x, f1, f2, f3⟩
        obtain ⟨key, k', x, f1, f2, f3⟩ := pr 0 a rfl
        cases f1
        obtain ⟨pk, pv⟩ := p
        have e1 : pk = Sum.inr k := e1
        subst e1
        have e4 : Sum.inr k = k' := hpq.1
        subst e4
        rcases keyIs_shape (show keyIs (Sum.inr k) key = true from f2) with ⟨i, t, ek, ev⟩ | ⟨z, t, ek, ev⟩
        · cases ek
        · cases ek
          subst ev
          refine ⟨⟨k, a, { cls := .type "tuple", data := .seq #[.str k t, x] }, pv⟩ :: its, by rw [List.map_cons, h1], by rw [List.map_cons, h2], fun i hi => ?_⟩
          rcases List.mem_cons.mp hi with rfl | hi
          · exact ⟨⟨t, x, _, f3, rfl, rfl⟩, rfl, [.str k t, x], .cons ⟨t, rfl⟩ (.cons hpq.2 .nil), ⟨_, f3, rfl, _, rfl⟩⟩
          · exact h3 i hi
theorem each_refs {its : List It} : PySem.W.EachIs (fun v (i : It) => v = Value.ref i.a) (its.map fun i => Value.ref i.a) its := by
  induction its with
  | nil => exact .nil
  | cons i r ih => exact .cons rfl ih
theorem each_keysI {its all : List It} (nd : (all.map It.a).Nodup) (h : ∀ i ∈ its, i ∈ all) : PySem.W.EachIs (fun v (i : It) => (itKind (itPs all)).keyOf v = some (PySem.W.keyToks (.str i.k))) (its.map fun i => Value.ref i.a) its := by
  induction its with
  | nil => exact .nil
  | cons i r ih => exact .cons (itKind_some nd (h i List.mem_cons_self)) (ih fun j hj => h j (List.mem_cons_of_mem _ hj))
theorem each_refs_eq {out : List Value} {its : List It} (h : PySem.W.EachIs (fun v (i : It) => v = Value.ref i.a) out its) : out = its.map fun i => Value.ref i.a := by
  induction h with
  | nil => rfl
  | cons h1 _ ih => rw [h1, ih, List.map_cons]
theorem vals_its (its : List It) : Vals (its.map fun i => V.ref i.a) (its.map fun i => Value.ref i.a) := by
  induction its with
  | nil => exact .nil
  | cons i r ih => exact .cons rfl ih
theorem leI_eq : (PySem.W.sortLe (PyProof.Rows.listOrd PyProof.Rows.itemOrd) false fun i : It => PySem.W.keyToks (.str i.k)) = leI := by
  have := PySem.W.dataLe_str (fun i : It => i.k)
  rw [show PySem.W.dataLe false (fun i : It => PyData.str i.k) = (PySem.W.sortLe (PyProof.Rows.listOrd PyProof.Rows.itemOrd) false fun i : It => PySem.W.keyToks (.str i.k)) from rfl] at this
  rw [this]
  funext a b
  unfold leI leT
  rw [PySem.W.not_lt_str]
theorem call_sortItems {pins : List (Addr × Obj)} {σ : L2.St} {H1 : Hp} {s1 : Shared} {d : Addr} {kvs : List (Key × V)} {ks : List Str} {Q : VK} (hu : X.A.units + 64 < cLine) (hc : X.calm = true) (I1 : Inv X pins σ H1 s1) (hd : Rd H1 d (.dK kvs)) (hks : kvs.map Prod.fst = ks.map Sum.inr)
    (q : ∀ (H' : Hp) (p : Addr) (its : List It), (∀ b o, H1 b = some o → H' b = some o) → H1 p = none → H' p = some (.lst ((its.mergeSort leI).map fun i => V.ref i.a)) → p ∉ its.map It.a →
      (its.map fun i => ((Sum.inr i.k : Key), i.v)) = kvs → (∀ i ∈ its, H1 i.a = none ∧ i.o.dict = none ∧ H' i.a = some (.frz i.o (.tup [.str i.k, i.v]))) → Q (.ref p) H') :
    wpAny (model X.prog X.w) X.A (call (.builtin "sorted") [.ref s1.heap.objs.size]) (fun u s' => ∃ v H', Inv X pins σ H' s' ∧ RelV v u ∧ Q v H') X.xe { s1 with heap := s1.heap.push { cls := .type "dict_items", data := .fields #[.ref d] } } := by
  obtain ⟨hz, hs0, vs, kv, hdo⟩ := dk_rd I1.hok hd
  obtain ⟨ep, hat⟩ := hdo.dictAt
  have lk : kvs.length = vs.length := Paired.length kv
  have I2 : Inv X pins σ H1 { s1 with heap := s1.heap.push { cls := .type "dict_items", data := .fields #[.ref d] } } := I1.kept (t' := s1.toks) fun b ob q => Heap.get?_push_of_some _ q
  refine Calls.call_function_entry kind_sorted plain_sorted entry_sorted (args_sorted1 _) ?_
  unfold Builtin.«sorted»
  refine wpAny_bind (m := checkCount "sorted" 1 1 _) (wpAny_pure ?_)
  refine wpAny_bind (PySem.W.kdx_collect (A := X.A.in1) (knd := mixKind X.prog X.w) (kvs := vs) (ep := ep) (I1.ok.hd hc) ⟨_, Heap.get?_push_size _ rfl, rfl, rfl⟩ (hat.push _) (by omega) fun heap tk as hk hl hG => ?_)
  obtain ⟨its, ea, ek, ok⟩ := its_of kv hks hl hG
  have il : its.length = vs.length := by rw [← hl, ← ea, List.length_map]
  have eas : as.map Value.ref = its.map fun i => Value.ref i.a := by rw [← ea, List.map_map]; rfl
  rw [eas]
  have nda : (its.map It.a).Nodup := by rw [ea]; exact List.Pairwise.imp (fun {a b} (h : a < b) => Nat.ne_of_lt h) hG.rise
  have ndk : (its.map It.k).Nodup := by
    have n1 := hat.nodup
    have n2 : kvs.map Prod.fst = vs.map Prod.fst := KV.keys kv
    rw [← n2, ← ek, List.map_map] at n1
    have n3 : (its.map (Prod.fst ∘ fun i => ((Sum.inr i.k : Key), i.v))) = (its.map It.k).map Sum.inr := by rw [List.map_map]; rfl
    rw [n3] at n1
    exact (List.pairwise_map.mp n1).imp fun h e => h (by rw [e])
  have I3 : Inv X pins σ H1 { s1 with heap := heap, toks := tk } := I2.kept hk
  refine wpAny_bind (wpAny_newList ?_ (by rw [List.length_map, il]; omega))
  obtain ⟨b, hb⟩ : ∃ b, b = heap.objs.size := ⟨_, rfl⟩
  have obj : (heap.push (seqObj "list" (its.map fun i => Value.ref i.a).toArray 0)).get? b = some (seqObj "list" (its.map fun i => Value.ref i.a).toArray 0) := by
    rw [hb]; exact Heap.get?_push_size _ rfl
  rw [← hb]
  show wpAny _ _ _ _ _ { s1 with heap := heap.push (seqObj "list" (its.map fun i => Value.ref i.a).toArray 0), toks := tk }
  have lb : ∀ i ∈ its, i.a ≠ b := fun i hi => by
    obtain ⟨⟨_, _, _, g, _, _⟩, _⟩ := ok i hi
    exact Nat.ne_of_lt (by rw [hb]; exact Heap.lt_size g)
  have keep : ∀ c o, heap.get? c = some o → (PySem.W.sortingHeap (heap.push (seqObj "list" (its.map fun i => Value.ref i.a).toArray 0)) b (its.map fun i => Value.ref i.a)).get? c = some o := fun c o e =>
    PySem.W.sortingHeap_old (Nat.ne_of_lt (by rw [hb]; exact Heap.lt_size e)) (Heap.get?_push_of_some _ e)
  have mv : ∀ {h1 : Heap} {i : It}, (∀ c o, heap.get? c = some o → h1.get? c = some o) → ItOk heap i → ItOk h1 i := fun k ⟨t, x, n, e1, e2, e3⟩ => ⟨t, x, n, k _ _ e1, e2, e3⟩
  refine wpAny_bind (wpAny_holding (wpAny_call_entry slot_list_sort ⟨_, obj, rfl⟩ entry_list_sort (PySem.W.list_sort_vals (κ := itKind (itPs its)) obj (its_sort nda ndk (fun i hi => mv keep (ok i hi).1) ?_) (by rw [List.length_map, il]; omega) ⟨_, rfl, ?_⟩) (args_list_sort _)))
  · show X.A.units + 1 + 1 + 2 < cLine
    omega
  · have se := PySem.W.sortVals_each (κ := itKind (itPs its)) (rev := false) (fun i : It => PySem.W.keyToks (.str i.k)) each_refs (each_keysI nda fun i hi => hi)
    have se2 : PySem.W.sortVals (itKind (itPs its)) false (its.map fun i => Value.ref i.a) (its.map fun i => Value.ref i.a) = (its.mergeSort leI).map fun i => Value.ref i.a := by
      have := each_refs_eq se
      rw [← leI_eq]
      exact this
    rw [se2]
    obtain ⟨e', he'⟩ := sortedHeap_at (vs := its.map fun i => Value.ref i.a) (out := ((its.mergeSort leI).map fun i => Value.ref i.a).toArray) obj
    have kept2 : ∀ c o, heap.get? c = some o → (sortedHeap (heap.push (seqObj "list" (its.map fun i => Value.ref i.a).toArray 0)) b (its.map fun i => Value.ref i.a) ((its.mergeSort leI).map fun i => Value.ref i.a).toArray).get? c = some o := fun c o e => by
      have h1 := Heap.lt_size e
      rw [sortedHeap_old (Nat.ne_of_lt (by rw [hb]; exact h1)) (by rw [size_push']; exact Nat.lt_succ_of_lt h1)]
      exact Heap.get?_push_of_some _ e
    have lo : ∀ i ∈ its, s1.heap.objs.size ≤ i.a := fun i hi => by
      have := hG.above i.a (by rw [← ea]; exact List.mem_map.mpr ⟨i, hi, rfl⟩)
      rw [size_push'] at this
      exact Nat.le_of_lt (Nat.lt_of_succ_lt this)
    have hs1 : s1.heap.objs.size ≤ b := by
      rw [hb]
      exact Nat.le_of_lt (Heap.lt_size (hk _ _ (Heap.get?_push_size _ rfl)))
    obtain ⟨H', k1, k2, k3, k4, J⟩ := its_laid (tk := tk) (its := its) (b := b) (xs := (its.mergeSort leI).map fun i => V.ref i.a) I1 (fun c o e => kept2 c o (hk c o (Heap.get?_push_of_some _ e))) nda lo hs1
      (fun z => by obtain ⟨i, hi, e⟩ := List.mem_map.mp z; exact lb i hi e)
      (fun i hi => by
        obtain ⟨g1, g2, us, g3, o, g4⟩ := ok i hi
        exact ⟨mv kept2 g1, g2, us, g3, o, kept2 _ _ g4.1, g4.2⟩)
      (fun H' => ⟨by rw [List.length_map, (List.mergeSort_perm _ _).length_eq, il]; omega, _, e', vals_its _, he'⟩)
    refine wpAny_pure ⟨_, rfl, .ref b, H', J, rfl, q H' b its k1 k2 k4 (fun z => by obtain ⟨i, hi, e⟩ := List.mem_map.mp z; exact lb i hi e) ek fun i hi => ⟨(k3 i hi).1, (ok i hi).2.1, (k3 i hi).2⟩⟩
theorem pe_sortItems {e : Expr} {te : TE} {p apos cpos pos : Pos} (hu : X.A.units + 64 < cLine) (hc : X.calm = true) (he : PE X e te) (hg : Gl X "sorted") (hm : X.mg "sorted" = none) (hbase : attributeBase e "items" X.env (eval e X.env) = eval e X.env := by rfl) (hline : (apos.endLine == cpos.line) = true := by rfl)
    (hs : starEach [.Call (.Attribute e "items" apos) [] [] cpos] X.env = (false, eval (.Call (.Attribute e "items" apos) [] [] cpos) X.env) :: starEach [] X.env := by rfl) :
    PE X (.Call (.Name "sorted" p) [.Call (.Attribute e "items" apos) [] [] cpos] [] pos) (tSortItems X.K te) := by
  refine ⟨fun pins s σ H Q I hq => ?_⟩
  refine wpAny_Call_Name_kw (ld_blt I hg hm boot_sorted ?_)
  refine PyProof.Rows.callWith_builtin1 ?_ hs rfl
  rw [hs]
  show wpAny _ _ (spliced ((false, eval (.Call (.Attribute e "items" apos) [] [] cpos) X.env) :: backTo pos (starEach [] X.env))) _ _ s
  refine Calls.spliced_cons ?_
  refine wpAny_Call_method (T := "dict") (id := "dict.items") hbase rfl hline F.plainAttrs_dict F.slot_dict_items F.type_dict_items (thn (he.run pins s σ H _ I hq) fun u s1 ⟨x, H1, I1, rx, d, kvs, ks, ex, hd, hks, q⟩ => ?_)
  subst ex
  obtain rfl : u = Value.ref d := rx
  obtain ⟨hz, hs0, vs, kv, hdo⟩ := dk_rd I1.hok hd
  obtain ⟨ep, hat⟩ := hdo.dictAt
  have lk : kvs.length = vs.length := Paired.length kv
  have I2 : Inv X pins σ H1 { s1 with heap := s1.heap.push { cls := .type "dict_items", data := .fields #[.ref d] } } := I1.kept (t' := s1.toks) fun b ob q => Heap.get?_push_of_some _ q
  refine ⟨hdo.typeIs, hdo.mapOf.noDict, ?_⟩
  show wpAny _ _ (callWith cpos (.builtin "dict.items") [.ref d] [] []) _ X.xe s1
  refine method_meetsIn F.slot_dict_items F.entry_dict_items rfl (PySem.evalArgs_none ⟨rfl, hdo.typeIs, F.args_dict_items_1 _, _, meets_dict_items (mixKind X.prog X.w) d hs0, ⟨vs, hdo⟩, ?_⟩)
  refine Calls.spliced_nil ?_
  exact call_sortItems hu hc I1 hd hks q
/-! ### as a reading -/
def keysTx : List (Key × D) → Option (List (Str × D))
  | [] => some []
  | (.inr x, d) :: r => (keysTx r).map ((x, d) :: ·)
  | _ => none
def leP (a b : Str × D) : Bool := leT a.1 b.1
def sortItM : D → M Cell := fun d s => match dctR s d with
  | some kvs => match keysTx kvs with
    | some ps => .ok (.lst ((ps.mergeSort leP).map fun p => D.tup [.str p.1, p.2])) s
    | none => .bad
  | none => .bad
theorem keysTx_eq : ∀ {kvs : List (Key × D)} {ps : List (Str × D)}, keysTx kvs = some ps → kvs = ps.map fun p => ((Sum.inr p.1 : Key), p.2)
  | [], ps, h => by cases h; rfl
  | (.inl _, _) :: r, ps, h => by cases h
  | (.inr x, d) :: r, ps, h => by
    unfold keysTx at h
    cases e : keysTx r with
    | none => rw [e] at h; cases h
    | some q =>
      rw [e] at h
      cases h
      rw [keysTx_eq e, List.map_cons]
theorem its_each {K : PySem.W.Frag} {w : Wd} : ∀ {its : List It} {ps : List (Str × D)}, RepK K w (its.map fun i => ((Sum.inr i.k : Key), i.v)) (ps.map fun p => ((Sum.inr p.1 : Key), p.2)) → PySem.W.EachIs (fun (i : It) (p : Str × D) => i.k = p.1 ∧ Rep K w i.v p.2) its ps
  | [], [], _ => .nil
  | [], _ :: _, h => by cases h
  | _ :: _, [], h => by cases h
  | i :: its, p :: ps, h => by
    rw [List.map_cons, List.map_cons] at h
    obtain ⟨pk, pd⟩ := p
    obtain ⟨ik, ia, io, iv⟩ := i
    cases h with
    | cons r t => exact .cons ⟨rfl, r⟩ (its_each t)
theorem its_repL {K : PySem.W.Frag} {w w' : Wd} (l : w.le w') : ∀ {its : List It} {ps : List (Str × D)}, PySem.W.EachIs (fun (i : It) (p : Str × D) => i.k = p.1 ∧ Rep K w i.v p.2) its ps → (∀ i ∈ its, TupC w'.F i.a [.str i.k, i.v]) → RepL K w' (its.map fun i => V.ref i.a) (ps.map fun p => D.tup [.str p.1, p.2])
  | _, _, .nil, _ => .nil
  | i :: its, p :: ps, .cons h t, q => by
    refine .cons ?_ (its_repL l t fun j hj => q j (List.mem_cons_of_mem _ hj))
    refine .tup (q i List.mem_cons_self) (.cons ?_ (.cons (h.2.upW l) .nil))
    rw [h.1]
    exact .str _
theorem RS.grow {K : PySem.W.Frag} {w : Wd} {H H' : Hp} {σ : L2.St} {s : S} (R : RS K w H σ s) (as : List Addr) (kp : ∀ b o, H b = some o → H' b = some o) (new : ∀ a ∈ as, H a = none) :
    Le w H ⟨w.ρ, fun a => open Classical in if a ∈ as then H' a else w.F a⟩ H' ∧ RS K ⟨w.ρ, fun a => open Classical in if a ∈ as then H' a else w.F a⟩ H' σ s := by
  have f1 : ∀ a o, w.F a = some o → (open Classical in if a ∈ as then H' a else w.F a) = some o := fun a o e => by
    have h := R.sub a o e
    rw [if_neg (fun z => by rw [new a z] at h; cases h)]
    exact e
  have le : w.le ⟨w.ρ, fun a => open Classical in if a ∈ as then H' a else w.F a⟩ := ⟨fun _ _ h => h, f1⟩
  refine ⟨⟨le, fun a o e _ => kp a o e, fun a h => .inl h, fun a o e => ?_⟩, ⟨fun a o e => ?_, R.len, fun i d h => ?_, R.cl, R.nd, fun a ha => ?_, fun n a c e1 e2 => ?_⟩⟩
  · by_cases c : a ∈ as
    · exact .inr (.inl (new a c))
    · have e : (open Classical in if a ∈ as then H' a else w.F a) = some o := e
      rw [if_neg c] at e
      exact .inl e
  · by_cases c : a ∈ as
    · have e : (open Classical in if a ∈ as then H' a else w.F a) = some o := e
      rw [if_pos c] at e
      exact e
    · have e : (open Classical in if a ∈ as then H' a else w.F a) = some o := e
      rw [if_neg c] at e
      exact kp a o (R.sub a o e)
  · obtain ⟨v, h1, h2⟩ := R.loc i d h
    exact ⟨v, h1, h2.upW le⟩
  · show (open Classical in if a ∈ as then H' a else w.F a) = none
    rw [if_neg (fun z => (R.fresh (new a z)).2 ha)]
    exact R.out a ha
  · have hne : H a ≠ none := fun z => R.ne z e1 rfl
    refine (R.cells n a c e1 e2).upW le ?_
    cases q : H a with
    | none => exact absurd q hne
    | some o => exact kp a o q
theorem dn_sortItems {e : Expr} {fe : M D} {p apos cpos pos : Pos} (hu : X.A.units + 64 < cLine) (hm : X.mg "sorted" = none) (he' : DE X W e fe) (hc : X.calm = true := by rfl) (hg : Gl X "sorted" := by rfl) (hbase : attributeBase e "items" X.env (eval e X.env) = eval e X.env := by rfl) (hline : (apos.endLine == cpos.line) = true := by rfl)
    (hs : starEach [.Call (.Attribute e "items" apos) [] [] cpos] X.env = (false, eval (.Call (.Attribute e "items" apos) [] [] cpos) X.env) :: starEach [] X.env := by rfl) :
    DN X W (.Call (.Name "sorted" p) [.Call (.Attribute e "items" apos) [] [] cpos] [] pos) (bnd fe sortItM) := by
  obtain ⟨t, q, r⟩ := he'
  refine ⟨_, pe_sortItems hu hc q hg hm hbase hline hs, fun w H σ s Q R z => ?_⟩
  show t σ H fun v H1 => rSortItems X.K v H1 Q
  refine r.bnd R z fun d s1 w1 H1 v l1 R1 r1 p1 => ?_
  unfold sortItM at p1
  split at p1
  · next kvs hd =>
    split at p1
    · next ps hn =>
      obtain ⟨a, us, rfl, h1, h2⟩ := R1.dictR r1 hd
      have ek := keysTx_eq hn
      subst ek
      refine ⟨a, us, ps.map Prod.fst, rfl, h1, by rw [RepK.keys h2, List.map_map, List.map_map]; rfl, fun H' p its k1 k2 k3 k4 k5 k6 => ?_⟩
      obtain ⟨l2, R2⟩ := R1.grow (its.map It.a) k1 (fun a ha => by obtain ⟨i, hi, rfl⟩ := List.mem_map.mp ha; exact (k6 i hi).1)
      rw [← k5] at h2
      have ea := its_each h2
      have es := PySem.W.sort_each (r := leI) (s := leP) ea (fun i hi j hj => by
        have e1 := (ea.zip i hi).1
        have e2 := (ea.zip j hj).1
        show leT i.1.k j.1.k = leT i.2.1 j.2.1
        rw [e1, e2])
      · have rl := its_repL l2.le es (fun i hi => by
          have hi := (List.mergeSort_perm _ _).mem_iff.mp hi
          refine ⟨i.o, ?_, (k6 i hi).2.1⟩
          show (open Classical in if i.a ∈ its.map It.a then H' i.a else w1.F i.a) = _
          rw [if_pos (List.mem_map.mpr ⟨i, hi, rfl⟩)]
          exact (k6 i hi).2.2)
        refine p1 _ H' _ l2 R2 ⟨p, rfl, ?_, (R1.fresh k2).2, ⟨_, k3, rl⟩, k2⟩
        show (open Classical in if p ∈ its.map It.a then H' p else w1.F p) = none
        rw [if_neg k4]
        exact (R1.fresh k2).1
    · exact p1.elim
  · exact p1.elim
/-! a, b, c = a list -/
def unp3L (i j k : Nat) (d : D) : M Out := fun s => match lstOf s d with
  | some [x, y, z] => .ok .nx { s with loc := ((s.loc.set i (some x)).set j (some y)).set k (some z) }
  | _ => .bad
theorem dg_threeL {i j k : Nat} {x y z : Str} {kk : Nat} {p1 p2 p3 pos : Pos} (hc : X.calm = true) (hN : X.N.Nodup) (hi : X.N[i]? = some x := by rfl) (hj : X.N[j]? = some y := by rfl) (hk : X.N[k]? = some z := by rfl) (hx : Loc X.env.scope x := by first | exact Or.inl rfl | exact Or.inr rfl) (hy : Loc X.env.scope y := by first | exact Or.inl rfl | exact Or.inr rfl) (hz : Loc X.env.scope z := by first | exact Or.inl rfl | exact Or.inr rfl)
    (hf : X.fn x = true ∨ X.env.scope.names.lookup x = some .local := by first | exact .inl rfl | exact .inr rfl) (hf2 : X.fn y = true ∨ X.env.scope.names.lookup y = some .local := by first | exact .inl rfl | exact .inr rfl) (hf3 : X.fn z = true ∨ X.env.scope.names.lookup z = some .local := by first | exact .inl rfl | exact .inr rfl)
    (hn : (assignEach [.Name x p1, .Name y p2, .Name z p3] X.env).length = 3 := by rfl) (hst : (assignEach [.Name x p1, .Name y p2, .Name z p3] X.env).findIdx? (·.1) = none := by rfl)
    (hs1 : (assignEach [.Name x p1, .Name y p2, .Name z p3] X.env).map (·.2) = assign (.Name x p1) X.env :: (assignEach [.Name y p2, .Name z p3] X.env).map (·.2) := by rfl) (hs2 : (assignEach [.Name y p2, .Name z p3] X.env).map (·.2) = assign (.Name y p2) X.env :: (assignEach [.Name z p3] X.env).map (·.2) := by rfl)
    (hs3 : (assignEach [.Name z p3] X.env).map (·.2) = assign (.Name z p3) X.env :: (assignEach [] X.env).map (·.2) := by rfl) :
    DG X (.Tuple [.Name x p1, .Name y p2, .Name z p3] kk pos) (unp3L i j k) := by
  refine ⟨_, pg_unl hc (pgs_cons (pg_name hN hi hx hf) (pgs_cons (pg_name hN hj hy hf2) (pgs_cons (pg_name hN hk hz hf3) pgs_nil hs3) hs2) hs1) hn hst, fun w H σ s v d Q R r p => ?_⟩
  unfold unp3L at p
  split at p
  · next d1 d2 d3 hd =>
    obtain ⟨a, vs, rfl, h1, h2⟩ := R.list r hd
    cases h2 with
    | cons r1 t1 =>
      cases t1 with
      | cons r2 t2 =>
        cases t2 with
        | cons r3 t3 =>
          cases t3
          exact ⟨a, _, rfl, h1, rfl, _, _, rfl, _, _, rfl, _, _, rfl, rfl, p w H _ (Le.refl _ _) (((R.set r1).set r2).set r3)⟩
  · exact p.elim
theorem unp3L_ok {i j k : Nat} (d : D) (s : S) : (∃ s', unp3L i j k d s = .ok .nx s') ∨ unp3L i j k d s = .bad := by
  unfold unp3L
  split
  · exact .inl ⟨_, rfl⟩
  · exact .inr rfl
theorem x_unp3L {i j k : Nat} {a b c : D} {s : S} : unp3L i j k (.lst [a, b, c]) s = .ok .nx ⟨((s.loc.set i (some a)).set j (some b)).set k (some c), s.vh⟩ := nr rfl
/-! what sorted(d.items()) is -/
theorem keysTx_map (f : List Nat × D → D) : ∀ ps : List (List Nat × D), keysTx (ps.map fun p => ((Sum.inr (tx p.1) : Key), f p)) = some (ps.map fun p => (tx p.1, f p))
  | [] => rfl
  | p :: r => by
    rw [List.map_cons, keysTx, keysTx_map f r]
    rfl
theorem x_sortItM {s : S} {d : D} {kvs : List (Key × D)} {ps : List (Str × D)} (h : dctR s d = some kvs) (hk : keysTx kvs = some ps) : sortItM d s = .ok (.lst ((ps.mergeSort leP).map fun p => D.tup [.str p.1, p.2])) s := by
  unfold sortItM
  rw [h]
  dsimp only
  rw [hk]
theorem sortP_eq {ps qs : List (Str × D)} (hp : qs.Perm ps) (hs : qs.Pairwise fun a b => leP a b = true) (nd : (ps.map Prod.fst).Nodup) : ps.mergeSort leP = qs := by
  refine List.Perm.eq_of_pairwise (le := fun a b => leP a b = true) (fun a b ha hb h1 h2 => ?_) (List.pairwise_mergeSort (le := leP) (fun a b c h1 h2 => leT_tr a.1 b.1 c.1 h1 h2) (fun a b => leT_tot a.1 b.1) ps) hs ((List.mergeSort_perm _ _).trans hp.symm)
  replace ha := (List.mergeSort_perm _ _).mem_iff.mp ha
  replace hb := hp.mem_iff.mp hb
  have e := leT_anti h1 h2
  clear hp hs h1 h2
  induction ps with
  | nil => cases ha
  | cons x r ih =>
    rw [List.map_cons, List.nodup_cons] at nd
    obtain ⟨n1, n2⟩ := nd
    rcases List.mem_cons.mp ha with e1 | i1
    · rcases List.mem_cons.mp hb with e2 | j1
      · rw [e1, e2]
      · exact absurd (List.mem_map.mpr ⟨b, j1, by rw [← e, e1]⟩) n1
    · rcases List.mem_cons.mp hb with e2 | j1
      · exact absurd (List.mem_map.mpr ⟨a, i1, by rw [e, e2]⟩) n1
      · exact ih n2 i1 j1
end Fx

/-! Fx: a dict that stands in a list, locked while it is walked; a place of a list or of a dict is set -/
namespace Fx
open PySem PySem.Spec PyProof.Rows L2
variable {X : Cx} {W : WX}
/-- the cell at place k of the list in slot i -/
def plC (i k : Nat) (s : S) : Option Nat := match s.loc[i]? with
  | some (some (.cell m)) => match s.vh[m]? with
    | some (.lst ds) => match ds[k]? with
      | some (.cell n) => some n
      | _ => none
    | _ => none
  | _ => none
theorem RepL.atD {K : PySem.W.Frag} {w : Wd} {vs : List V} {ds : List D} (h : RepL K w vs ds) : ∀ {k : Nat} {d : D}, ds[k]? = some d → ∃ v, Rep K w v d := by
  induction ds generalizing vs with
  | nil => intro k d e; simp at e
  | cons x ds ih =>
    cases h with
    | cons r t =>
      intro k d e
      cases k with
      | zero => cases e; exact ⟨_, r⟩
      | succ k => exact ih t e
theorem RS.plC {K : PySem.W.Frag} {w : Wd} {H : Hp} {σ : L2.St} {s : S} (R : RS K w H σ s) {i k n : Nat} (h : plC i k s = some n) : ∃ a, w.ρ[n]? = some a := by
  unfold Fx.plC at h
  split at h
  · next m hm =>
    split at h
    · next ds hd =>
      split at h
      · next q hq =>
        cases h
        obtain ⟨b, hb⟩ := R.cellV hm
        obtain ⟨vs, _, rl⟩ := R.cells m b _ hb hd
        obtain ⟨v, r⟩ := rl.atD hq
        cases r with
        | cell h => exact ⟨_, h⟩
      · cases h
    · cases h
  · cases h
open Classical in
noncomputable def lockP {α : Type} (i k : Nat) (f : M α) : M α := fun s => match plC i k s with
  | some n => match s.vh[n]? with
    | some (.dct kvs) => if h : ∃ r : α × List (Option D) × List Cell, n < r.2.2.length ∧ ∀ o us, f ⟨s.loc, s.vh.set n (.dctL o us kvs)⟩ = .ok r.1 ⟨r.2.1, r.2.2.set n (.dctL o us kvs)⟩ then .ok h.choose.1 ⟨h.choose.2.1, h.choose.2.2.set n (.dct kvs)⟩ else .bad
    | _ => .bad
  | _ => .bad
theorem ds_lockP {st : Stmt} {f : M Out} (i k : Nat) (h : DS X W st f) : DS X W st (lockP i k f) := by
  obtain ⟨t, p, r⟩ := h
  refine ⟨tLock t, ps_lock p, fun w H σ s D R z => ?_⟩
  unfold lockP at z
  split at z
  · next n hloc =>
    split at z
    · next kvs hvh =>
      split at z
      · next h =>
        obtain ⟨a, hr⟩ := R.plC hloc
        obtain ⟨us, hH, hrep⟩ := R.cells n a _ hr hvh
        have spec := h.choose_spec
        refine ⟨a, .dK us, hH, trivial, fun od => ?_⟩
        refine r w _ σ _ _ (R.lock od hr hrep) ?_
        rw [spec.2 od us]
        generalize h.choose = rr at *
        obtain ⟨out, l, vh⟩ := rr
        have main : ∀ w' H' σ', Le w (upd H a (.frz od (.dK us))) w' H' → RS X.K w' H' σ' ⟨l, vh.set n (.dctL od us kvs)⟩ → H' a = some (.frz od (.dK us)) ∧ RS X.K w' (upd H' a (.dK us)) σ' ⟨l, vh.set n (.dct kvs)⟩ ∧ Le w H w' (upd H' a (.dK us)) := fun w' H' σ' l' R' => by
          have hr' : w'.ρ[n]? = some a := l'.le.1 _ _ hr
          obtain ⟨h1, h2⟩ := R'.unlock hr' spec.1
          exact ⟨h1, h2, ((Le.write (List.mem_of_getElem? hr)).trans l').trans (Le.write (List.mem_of_getElem? hr'))⟩
        cases out with
        | rt d => exact fun w' H' σ' v l' R' rv => let ⟨h1, h2, h3⟩ := main w' H' σ' l' R'; ⟨h1, z w' _ σ' v h3 h2 rv⟩
        | nx => exact fun w' H' σ' l' R' => let ⟨h1, h2, h3⟩ := main w' H' σ' l' R'; ⟨h1, z w' _ σ' h3 h2⟩
        | brk => exact fun w' H' σ' l' R' => let ⟨h1, h2, h3⟩ := main w' H' σ' l' R'; ⟨h1, z w' _ σ' h3 h2⟩
        | cnt => exact fun w' H' σ' l' R' => let ⟨h1, h2, h3⟩ := main w' H' σ' l' R'; ⟨h1, z w' _ σ' h3 h2⟩
      · exact z.elim
    · exact z.elim
  · exact z.elim
theorem plC_at {i k m n : Nat} {s : S} {ds : List D} (h1 : s.loc[i]? = some (some (.cell m))) (h2 : s.vh[m]? = some (.lst ds)) (h3 : ds[k]? = some (.cell n)) : plC i k s = some n := by
  unfold plC; rw [h1]; dsimp only; rw [h2]; dsimp only; rw [h3]
open Classical in
theorem x_lockP {α : Type} {i k n : Nat} {f : M α} {l l' : List (Option D)} {vh vh' : List Cell} {kvs : List (Key × D)} {a : α} (h1 : plC i k ⟨l, vh⟩ = some n) (h2 : vh[n]? = some (.dct kvs)) (hn : n < vh'.length)
    (h : ∀ o us, f ⟨l, vh.set n (.dctL o us kvs)⟩ = .ok a ⟨l', vh'.set n (.dctL o us kvs)⟩) : lockP i k f ⟨l, vh⟩ = .ok a ⟨l', vh'.set n (.dct kvs)⟩ := by
  have ex : ∃ r : α × List (Option D) × List Cell, n < r.2.2.length ∧ ∀ o us, f ⟨l, vh.set n (.dctL o us kvs)⟩ = .ok r.1 ⟨r.2.1, r.2.2.set n (.dctL o us kvs)⟩ := ⟨(a, l', vh'), hn, h⟩
  unfold lockP
  dsimp only
  rw [h1]
  dsimp only
  rw [h2]
  dsimp only
  rw [dif_pos ex]
  have sp := ex.choose_spec
  generalize ex.choose = rr at *
  obtain ⟨b, m, vh2⟩ := rr
  dsimp only at sp ⊢
  have o0 : Obj := { cls := .none, data := .plain }
  have e := (h o0 []).symm.trans (sp.2 o0 [])
  injection e with e1 e2
  injection e2 with e3 e4
  subst e1 e3
  have e5 : vh'.set n (.dct kvs) = vh2.set n (.dct kvs) := by
    have := congrArg (fun v => v.set n (Cell.dct kvs)) e4
    simpa [List.set_set] using this
  rw [e5]
end Fx

/-! Fx: d.setdefault(k, x) -/
namespace L2
open PySem PySem.Spec PyProof.Rows
section
variable {X : Cx} {o e f : Expr} {td ty tx : TE} {apos cpos : Pos}
/-- .. of a dict of nested keys -/
def tNSet (X : Cx) (td ty tx : TE) : TE := fun σ H Q => td σ H fun x H1 => (∃ a xs, x = .ref a ∧ H1 a = some (dNO X.w a xs) ∧ ∀ x ∈ xs, KeyAt X H1 x.1 x.2.1) ∧ ty σ H1 fun y H2 => tx σ H2 fun z H3 => ∃ a b q xs, AtN X H3 x y a b q xs ∧ xs.length < sizeLine ∧
  (∀ p, atKey xs q = some p → ∃ v, RelV v p.2 ∧ Q v H3) ∧ (atKey xs q = none → ∀ u, RelV z u → Q z (upd H3 a (dNO X.w a (storedH xs q b u))))
theorem pe_nsetd (hu : X.A.units + 20 < cLine) (ho : PE X o td) (he : PE X e ty) (hf : PE X f tx) (m : M2 X o "setdefault" apos e f cpos) : PE X (.Call (.Attribute o "setdefault" apos) [e, f] [] cpos) (tNSet X td ty tx) := by
  refine ⟨fun pins s σ H Q I h => ?_⟩
  refine wpAny_Call_method m.base m.few m.line PySem.F.plainAttrs_dict PySem.F.slot_dict_setdefault PySem.F.type_dict_setdefault (thn (ho.run pins s σ H _ I h) fun u s1 ⟨x, H1, I1, rx, ⟨a1, xs1, ex1, ea1, ks1⟩, q1⟩ => ?_)
  subst ex1
  obtain rfl : u = Value.ref a1 := rx
  obtain ⟨y1, y2, d1⟩ := dN_at I1 ea1 ks1
  refine ⟨d1.typeIs, fun c hc => ?_, ?_⟩
  · cases hc
    obtain ⟨o, _, _, e1, e2, _⟩ := d1
    exact ⟨o, e1, e2.2.1⟩
  rw [m.trees]
  refine Calls.callWith_builtin rfl (Calls.evalArgs_plain (Calls.spliced_cons (thn (he.run pins s1 σ H1 _ I1 q1) fun iv s2 ⟨y, H2, I2, ry, q2⟩ =>
    Calls.spliced_cons (thn (hf.run pins s2 σ H2 _ I2 q2) fun fv s3 ⟨z, H3, I3, rz, a, b, q, xs, ⟨ex, ey, ea, kb, ks⟩, hl, q3, q4⟩ => Calls.spliced_nil ?_))))
  subst ey
  cases ex
  obtain rfl : iv = Value.ref b := ry
  obtain ⟨z1, z2, dd⟩ := dN_at I3 ea ks
  exact call_setdefault_heap (knd := nestedKind X.prog X.w) (roomN hu) ⟨kb.2 _ _ _ I3, kb.1⟩ z1 dd (fun p hp => let ⟨v, rv, k⟩ := q3 p hp; ⟨v, H3, I3.tok _, rv, k⟩)
    (fun hn h' d' sb => ⟨z, _, nwrite I3 ea z1 sb (Nat.le_trans (storedH_le _ _ _ _) hl) d', rz, q4 hn _ rz⟩) z2
end
end L2
namespace Fx
open PySem PySem.Spec PyProof.Rows L2
variable {X : Cx} {W : WX}
noncomputable def nSetM (wd : World) (d e x : D) : M D := fun s => match dctNR wd s d, nkey e with
  | some (n, kvs), some q => match valN kvs q with
    | some v => if kvs.length < sizeLine then .ok v s else .bad
    | none => if kvs.length < sizeLine then .ok x ⟨s.loc, s.vh.set n (.dctN wd (putN kvs q x))⟩ else .bad
  | _, _ => .bad
noncomputable def nSetE (wd : World) (fo fi fx : M D) : M D := bnd fo fun d s => if (dctNR wd s d).isSome = true then bnd fi (fun e => bnd fx fun x => nSetM wd d e x) s else .bad
def dSetM (d e x : D) : M D := fun s => match d, keyD e with
  | .cell n, some k => match s.vh[n]? with
    | some (.dct kvs) => if kvs.length < sizeLine then (match valA kvs k with
      | some v => .ok v s
      | none => .ok x ⟨s.loc, s.vh.set n (.dct (putA kvs k x))⟩) else .bad
    | _ => .bad
  | _, _ => .bad
def dSetE (fo fi fx : M D) : M D := onD fo fun d => bnd fi fun e => bnd fx fun x => dSetM d e x
section
variable {o e f : Expr} {fo fe ff : M D} {apos cpos : Pos}
theorem de_nset (hu : X.A.units + 64 < cLine) (ho : DE X W o fo) (he : DE X W e fe) (hf : DE X W f ff) (hbase : attributeBase o "setdefault" X.env (eval o X.env) = eval o X.env := by rfl)
    (hfew : ((backTo cpos (starEach [e, f] X.env)).all (fun x => !x.1) && (backToKw cpos (keywordEach [] X.env)).all (fun x => x.1.isSome)
      && decide (([e, f] : List Expr).length + ([] : List Keyword).length + (if ([] : List Keyword).isEmpty then 0 else 1) < 30)) = true := by rfl)
    (hline : (apos.endLine == cpos.line) = true := by rfl) (htrees : backTo cpos (starEach [e, f] X.env) = [(false, eval e X.env), (false, eval f X.env)] := by rfl) : DE X W (.Call (.Attribute o "setdefault" apos) [e, f] [] cpos) (nSetE X.w fo fe ff) := by
  obtain ⟨t, p, r⟩ := ho
  obtain ⟨u, q, h⟩ := he
  obtain ⟨u', q', h'⟩ := hf
  refine ⟨_, pe_nsetd (by omega) p q q' ⟨hbase, hfew, hline, htrees⟩, fun w H σ s Q R z => ?_⟩
  refine r.bnd R z fun d s1 w1 H1 v1 l1 R1 r1 p1 => ?_
  split at p1
  · next hs =>
    obtain ⟨⟨n, kvs⟩, hn⟩ := Option.isSome_iff_exists.mp hs
    obtain ⟨_, a, xs, e1, e2, e3, e4, e5⟩ := R1.dN r1 hn
    refine ⟨⟨a, xs, e1, e4, e5.keysAt R1⟩, ?_⟩
    refine h.bnd R1 p1 fun e s2 w2 H2 v2 l2 R2 r2 p2 => ?_
    refine h'.bnd R2 p2 fun x s3 w3 H3 v3 l3 R3 r3 p3 => ?_
    unfold nSetM at p3
    split at p3
    · next n kvs k hd hk =>
      obtain ⟨_, a, b, xs, A, h1, h2, h3, h4, h5, h6⟩ := R3.atN (Rep.up l3 (Rep.up l2 r1)) (Rep.up l3 r2) hd hk
      split at p3
      · next v hv =>
        obtain ⟨p, y, g4, g5, g6⟩ := (h3.val k).2 v hv
        split at p3
        · next hl =>
          refine ⟨a, b, k, xs, A, by rw [h3.length]; exact hl, fun p' hp' => ?_, fun hn => ?_⟩
          · rw [g4] at hp'
            cases hp'
            exact ⟨y, g5, Post.here p3 R3 g6⟩
          · rw [g4] at hn; cases hn
        · exact p3.elim
      · next hv =>
        have g := (h3.val k).1 hv
        split at p3
        · next hl =>
          refine ⟨a, b, k, xs, A, by rw [h3.length]; exact hl, fun p' hp' => ?_, fun _ u ru => ?_⟩
          · rw [g] at hp'; cases hp'
          · exact p3 w3 _ v3 (Le.write (List.mem_of_getElem? h1)) (R3.setCell h1 ⟨_, upd_same, h3.put h5 h6 h4 ru r3⟩) r3
        · exact p3.elim
    · exact p3.elim
  · exact p1.elim
theorem de_dset (ho : DE X W o fo) (he : DE X W e fe) (hf : DE X W f ff) (hbase : attributeBase o "setdefault" X.env (eval o X.env) = eval o X.env := by rfl)
    (hfew : ((backTo cpos (starEach [e, f] X.env)).all (fun x => !x.1) && (backToKw cpos (keywordEach [] X.env)).all (fun x => x.1.isSome)
      && decide (([e, f] : List Expr).length + ([] : List Keyword).length + (if ([] : List Keyword).isEmpty then 0 else 1) < 30)) = true := by rfl)
    (hline : (apos.endLine == cpos.line) = true := by rfl) (htrees : backTo cpos (starEach [e, f] X.env) = [(false, eval e X.env), (false, eval f X.env)] := by rfl) : DE X W (.Call (.Attribute o "setdefault" apos) [e, f] [] cpos) (dSetE fo fe ff) := by
  obtain ⟨t, p, r⟩ := ho
  obtain ⟨u, q, h⟩ := he
  obtain ⟨u', q', h'⟩ := hf
  refine ⟨_, pe_dsetd p q q' ⟨hbase, hfew, hline, htrees⟩, fun w H σ s Q R z => ?_⟩
  refine onD_fol r R z fun d s1 w1 H1 a l1 R1 r1 hd p1 => ⟨a, rfl, hd, ?_⟩
  refine h.bnd R1 p1 fun e s2 w2 H2 v2 l2 R2 r2 p2 => ?_
  refine h'.bnd R2 p2 fun x s3 w3 H3 v3 l3 R3 r3 p3 => ?_
  unfold dSetM at p3
  split at p3
  · next n k hk =>
    split at p3
    · next kvs hkv =>
      split at p3
      · next hl =>
        obtain ⟨a', vs, e1, h1, h2, h3⟩ := R3.dictW (Rep.up l3 (Rep.up l2 r1)) rfl hkv
        cases e1
        have e2 := key_of (Rep.up l3 r2) hk
        refine ⟨vs, k, h2, e2, by rw [RepK.length h3]; exact hl, fun v hv => ?_, fun hv => ?_⟩
        · cases hd : valA kvs k with
          | none => rw [(RepK.val (k := k) h3).1 hd] at hv; cases hv
          | some y =>
            rw [hd] at p3
            obtain ⟨y', g1, g2⟩ := (RepK.val (k := k) h3).2 y hd
            rw [g1] at hv
            cases hv
            exact Post.here p3 R3 g2
        · cases hd : valA kvs k with
          | some y =>
            obtain ⟨y', g1, g2⟩ := (RepK.val (k := k) h3).2 y hd
            rw [g1] at hv
            cases hv
          | none =>
            rw [hd] at p3
            exact p3 w3 _ v3 (Le.write (List.mem_of_getElem? h1)) (R3.setCell h1 ⟨_, upd_same, RepK.put h3 r3⟩) r3
      · exact p3.elim
    · exact p3.elim
  · exact p3.elim
end
/-! ### equations -/
theorem x_nSetM1 {wd : World} {e x v : D} {n : Nat} {kvs : List (NestedKey × D)} {q : NestedKey} {s : S} (h : s.vh[n]? = some (.dctN wd kvs)) (hk : nkey e = some q) (hv : valN kvs q = some v) (hl : kvs.length < 16777216) : nSetM wd (.cell n) e x s = .ok v s := by
  unfold nSetM
  rw [dctNR_at h, hk]
  dsimp only
  rw [hv]
  dsimp only
  rw [if_pos (by rw [sizeLine_eq]; exact hl)]
theorem x_nSetM0 {wd : World} {e x : D} {n : Nat} {kvs : List (NestedKey × D)} {q : NestedKey} {s : S} (h : s.vh[n]? = some (.dctN wd kvs)) (hk : nkey e = some q) (hv : valN kvs q = none) (hl : kvs.length < 16777216) : nSetM wd (.cell n) e x s = .ok x ⟨s.loc, s.vh.set n (.dctN wd (putN kvs q x))⟩ := by
  unfold nSetM
  rw [dctNR_at h, hk]
  dsimp only
  rw [hv]
  dsimp only
  rw [if_pos (by rw [sizeLine_eq]; exact hl)]
theorem x_nSet {wd : World} {fo fi fx : M D} {s : S} : nSetE wd fo fi fx s = (fo s).then' fun d s => if (dctNR wd s d).isSome = true then bnd fi (fun e => bnd fx fun x => nSetM wd d e x) s else .bad := nr rfl
theorem x_dSet {fo fi fx : M D} {s : S} : dSetE fo fi fx s = onD fo (fun d => bnd fi fun e => bnd fx fun x => dSetM d e x) s := nr rfl
theorem x_dSetM1 {e x v : D} {n : Nat} {kvs : List (Key × D)} {k : Key} {s : S} (h : s.vh[n]? = some (.dct kvs)) (hk : keyD e = some k) (hv : valA kvs k = some v) (hl : kvs.length < 16777216) : dSetM (.cell n) e x s = .ok v s := by
  unfold dSetM
  rw [hk]
  dsimp only
  rw [h]
  dsimp only
  rw [if_pos (by rw [sizeLine_eq]; exact hl), hv]
theorem x_dSetM0 {e x : D} {n : Nat} {kvs : List (Key × D)} {k : Key} {s : S} (h : s.vh[n]? = some (.dct kvs)) (hk : keyD e = some k) (hv : valA kvs k = none) (hl : kvs.length < 16777216) : dSetM (.cell n) e x s = .ok x ⟨s.loc, s.vh.set n (.dct (putA kvs k x))⟩ := by
  unfold dSetM
  rw [hk]
  dsimp only
  rw [h]
  dsimp only
  rw [if_pos (by rw [sizeLine_eq]; exact hl), hv]
end Fx

/-! Fx: xs.remove(text) -/
namespace L2
open PySem PySem.Spec PyProof.Rows
theorem first_str : ∀ {ns : List Str} {k : Str}, k ∈ ns → ∃ j, ns[j]? = some k ∧ (∀ i, i < j → ns[i]? ≠ some k) ∧ ns.eraseIdx j = ns.erase k
  | [], k, h => absurd h (by simp)
  | a :: r, k, h => by
    by_cases e : a = k
    · refine ⟨0, by rw [e] <;> rfl, fun i hi => absurd hi (Nat.not_lt_zero _), ?_⟩
      rw [e, List.erase_cons_head] <;> rfl
    · have hr : k ∈ r := by
        rcases List.mem_cons.mp h with z | z
        · exact absurd z.symm e
        · exact z
      obtain ⟨j, h2, h3, h4⟩ := first_str hr
      refine ⟨j + 1, h2, fun i hi => ?_, ?_⟩
      · cases i with
        | zero =>
          intro z
          exact e (Option.some.inj z)
        | succ i => exact h3 i (Nat.lt_of_succ_lt_succ hi)
      · rw [List.erase_cons_tail (by rw [beq_iff_eq]; exact e), ← h4] <;> rfl
theorem isStrOf_at (k : Str) : ∀ {vs : List Value} {ns : List Str}, StrsAre vs ns → ∀ (i : Nat) (h : i < vs.length), isStrOf k vs[i] = true ↔ ns[i]? = some k
  | _, _, .nil, i, h => absurd h (by simp)
  | _, _, .cons n t hr, 0, _ => by
    show (n == k) = true ↔ some n = some k
    rw [beq_iff_eq, Option.some_inj]
  | _, _, .cons n t hr, i + 1, h => isStrOf_at k hr i (Nat.lt_of_succ_lt_succ h)
theorem erase_mapS : ∀ (l : List Str) (j : Nat), (l.map V.str).eraseIdx j = (l.eraseIdx j).map V.str
  | [], j => by simp
  | a :: r, 0 => by simp
  | a :: r, j + 1 => by
    have ih := erase_mapS r j
    simp [ih]
section
variable {X : Cx}
def rRemT : V → List V → Hp → VK → Prop := fun x xs H Q => ∃ (l : Addr) (ns : List Str) (k : Str), x = .ref l ∧ xs = [.str k] ∧ H l = some (.lst (ns.map V.str)) ∧ k ∈ ns ∧ Q .non (upd H l (.lst ((ns.erase k).map V.str)))
theorem mt_removeT : MtM X "list.remove" rRemT := by
  intro pins s σ H x xs v us Q I rx rxs h
  obtain ⟨l, ns, k, rfl, rfl, hH, hk, q⟩ := h
  cases rx
  obtain ⟨u, rfl, ru⟩ := rxs.one
  obtain ⟨t, rfl⟩ := ru
  obtain ⟨z, its, n, r, hl, e⟩ := I.lstM hH
  have hi := Vals.strs r
  obtain ⟨j, j2, j3, j4⟩ := first_str hk
  rw [List.length_map] at hl z
  have hjn : j < ns.length := (List.getElem?_eq_some_iff.mp j2).1
  have hjl : j < its.length := by omega
  refine call_meets PySem.F.slot_list_remove ⟨_, e, rfl⟩ PySem.F.entry_list_remove (PySem.F.args_list_remove_2 _ _)
    (MeetsSeq.list_remove l its.toArray n (.str k t) (isStrOf k) (fun y hy => eq_isStrOf k t hi y (by simpa using hy)) j (by rw [List.size_toArray]; exact hjl) ?_ ?_ (by rw [List.size_toArray]; omega)) ⟨e, ?_⟩
  · show isStrOf k its[j] = true
    exact (isStrOf_at k hi j hjl).mpr j2
  · intro m hm hmj
    have hm3 : m < its.length := by rw [List.size_toArray] at hm; exact hm
    show isStrOf k its[m] = false
    rw [Bool.eq_false_iff]
    intro w
    exact j3 m hmj ((isStrOf_at k hi m hm3).mp w)
  · have rr := r.eraseIdx j
    rw [erase_mapS, j4] at rr
    refine ⟨.non, _, I.lset (its' := its.eraseIdx j) (t' := s.toks) hH e ?_ rr ?_, rfl, q⟩
    · show its.toArray.eraseIdxIfInBounds j = (its.eraseIdx j).toArray
      rw [List.eraseIdxIfInBounds_toArray]
    · rw [List.length_map]
      have := List.length_erase_le (a := k) (l := ns)
      omega
end
end L2
namespace Fx
open PySem PySem.Spec PyProof.Rows L2
variable {X : Cx} {W : WX}
def remM (d : D) : List D → M D
  | [.str k] => wrM d fun ds s => match strsOf ds with
    | some ys => if k ∈ ys then .ok ((ys.erase k).map D.str, .non) s else .bad
    | none => .bad
  | _ => fail
theorem rm_removeT : RMt X rRemT remM := by
  intro W w H σ s v vs d ds Q R r rs p
  unfold remM at p
  split at p
  · next k =>
    obtain ⟨u, rfl, ru⟩ := one_of rs
    cases ru
    obtain ⟨a, us, ds, es, y, s', rfl, h1, h2, h3, h4⟩ := R.wr r p
    split at h3
    · next ys hy =>
      split at h3
      · next hk =>
        cases h3
        have e := strs_rep h2 hy
        subst e
        exact ⟨a, ys, k, rfl, rfl, h1, hk, h4 rfl _ _ (repStrs _) Rep.non⟩
      · cases h3
    · cases h3
  · exact p.elim
theorem de_remT {o e : Expr} {f : M D} {fs : M (List D)} {ap pos : Pos} (ho : DE X W o f) (ha : DA X W [e] fs) (hbase : attributeBase o "remove" X.env (eval o X.env) = eval o X.env := by rfl)
    (hfew : ((backTo pos (starEach [e] X.env)).all (fun x => !x.1) && (backToKw pos (keywordEach [] X.env)).all (fun x => x.1.isSome)
      && decide (([e] : List Expr).length + ([] : List Keyword).length + (if ([] : List Keyword).isEmpty then 0 else 1) < 30)) = true := by rfl)
    (hline : (ap.endLine == pos.line) = true := by rfl) (hs : starEach [e] X.env = (false, eval e X.env) :: starEach [] X.env := by rfl) (hplain : (backTo pos (starEach [] X.env)).any (·.1) = false := by rfl) :
    DE X W (.Call (.Attribute o "remove" ap) [e] [] pos) (methM "list" f fs remM) :=
  de_meth rm_removeT PySem.F.plainAttrs_list PySem.F.slot_list_remove PySem.F.type_list_remove mt_removeT ho ha hbase hfew hline hs hplain
theorem x_remT {n : Nat} {k : Str} {ys : List Str} {s : S} {ds : List D} (h : s.vh[n]? = some (.lst ds)) (hy : strsOf ds = some ys) (hk : k ∈ ys) : remM (.cell n) [.str k] s = .ok .non ⟨s.loc, s.vh.set n (.lst ((ys.erase k).map D.str))⟩ := by
  unfold remM wrM
  dsimp only
  rw [h]
  dsimp only
  rw [hy]
  dsimp only
  rw [if_pos hk]
end Fx

/-! Fx: {} that stands by itself and is never written; lists of unlike length -/
namespace L2
open PySem PySem.Spec PyProof.Rows
section
variable {X : Cx}
def rEqL (K : PySem.W.Frag) : R2 := fun x y H Q => ∃ a b xs ys, x = .ref a ∧ y = .ref b ∧ SqL K H a xs ∧ SqL K H b ys ∧ xs.length ≠ ys.length ∧ Q (.bl false) H
theorem op_eqL (hu : X.A.units + 64 < cLine) : OpR X (compareOp .Eq) (rEqL X.K) := by
  intro pins s σ H x y v u Q I rx ry h
  obtain ⟨a, b, xs, ys, rfl, rfl, h1, h2, h3, q⟩ := h
  cases rx
  cases ry
  obtain ⟨its, rv, hl, _⟩ := I.list h1
  obtain ⟨its', rv', hl', _⟩ := I.list h2
  have k := SeqAt.RcAt.lists_lengths (A := X.A) hl.isList hl'.isList (by
    rw [bne_iff_ne, List.size_toArray, List.size_toArray, ← rv.length, ← rv'.length]
    exact h3) (by omega)
  exact k _ _ _ _ ⟨.bl _, H, I, rfl, q⟩
end
end L2
namespace Fx
open PySem PySem.Spec L2
variable {X : Cx} {W : WX}
def eqLM (d e : D) : M D := fun s => match lstOf s d, lstOf s e with
  | some xs, some ys => if xs.length ≠ ys.length then .ok (.bl false) s else .bad
  | _, _ => .bad
theorem rop_eqL : ROp X (rEqL X.K) eqLM := by
  intro W w H σ s x y d e Q R rx ry p
  unfold eqLM at p
  split at p
  · next xs ys h1 h2 =>
    split at p
    · next k =>
      obtain ⟨a, vs, e1, s1, r1⟩ := R.list rx h1
      obtain ⟨b, us, e2, s2, r2⟩ := R.list ry h2
      exact ⟨a, b, vs, us, e1, e2, s1, s2, by rw [RepL.length r1, RepL.length r2]; exact k, Post.here p R (Rep.bl _)⟩
    · exact p.elim
  · exact p.elim
/-- ==, of data or of lists of unlike length -/
def eqAL (d e : D) : M D := altM (eqM d e) (eqLM d e)
theorem op_eqAL (hu : X.A.units + 64 < cLine) : OpR X (compareOp .Eq) (fun x y H Q => (rEq x y H Q ∨ rEqD X.K x y H Q) ∨ rEqL X.K x y H Q) := opr_or (op_eqA hu) (op_eqL hu)
theorem rop_eqAL : ROp X (fun x y H Q => (rEq x y H Q ∨ rEqD X.K x y H Q) ∨ rEqL X.K x y H Q) eqAL := rop_alt rop_eq rop_eqL
theorem x_eqAL1 {d e : D} {b : Bool} {s : S} (h : eqM d e s = .ok (.bl b) s) : eqAL d e s = .ok (.bl b) s := by unfold eqAL altM; rw [h]
theorem x_eqAL0 {d e : D} {xs ys : List D} {s : S} (h : eqM d e s = .bad) (h1 : lstOf s d = some xs) (h2 : lstOf s e = some ys) (k : xs.length ≠ ys.length) : eqAL d e s = .ok (.bl false) s := by
  unfold eqAL altM eqLM
  rw [h]
  dsimp only
  rw [h1, h2]
  dsimp only
  rw [if_pos k]
/-- {} that no one writes to -/
def frzE (m : M Cell) : M D := bnd m fun c => match c with
  | .dct [] => ret .emp
  | _ => fail
theorem frzE_fol {t : TE} {f : M Cell} (r : Fol X.K W (pN X.K) t f) : Fol X.K W (pD X.K) t (frzE f) := fun w H σ s Q R z => by
  refine r w H σ s Q R ?_
  unfold frzE bnd at z
  cases hf : f s with
  | bad => rw [hf] at z; exact z.elim
  | exc x s1 => rw [hf] at z; exact z
  | ok c s1 =>
    rw [hf] at z
    rintro w1 H1 _ l1 R1 ⟨q, rfl, N⟩
    cases c with
    | lst _ => exact z.elim
    | obj _ _ => exact z.elim
    | dctL _ _ _ => exact z.elim
    | dctN _ _ => exact z.elim
    | dct kvs =>
      cases kvs with
      | cons _ _ => exact z.elim
      | nil =>
        obtain ⟨vs, h1, h2⟩ := N.c
        cases h2
        exact z _ _ _ (l1.frz N.n N.f) (R1.frz h1 N.f N.r) (.emp upd_same)
theorem de_frzE {a : Expr} {f : M Cell} (h : DN X W a f) : DE X W a (frzE f) := let ⟨t, p, r⟩ := h; ⟨t, p, frzE_fol r⟩
theorem x_frzE {s : S} : frzE (ret (.dct [])) s = .ok .emp s := nr rfl
end Fx

/-! ### the text, by gen.py -/
namespace Wktwigtable_k01_kinds
open PySem PySem.Spec PyProof.Rows L2 Fx
def topS (i : Nat) : Stmt := PySem.Challenge.pw_twigtable_k01_kinds.main.body.getD i (.Pass ⟨0, 0, 0, 0⟩)
structure Txt (K : PySem.W.Frag) (mg : Str → Option Value) : Prop where
  b_abs : mg "abs" = none
  b_bool : mg "bool" = none
  b_int : mg "int" = none
  b_isinstance : mg "isinstance" = none
  b_len : mg "len" = none
  b_list : mg "list" = none
  b_ord : mg "ord" = none
  b_range : mg "range" = none
  b_sorted : mg "sorted" = none
  b_str : mg "str" = none
  b_tuple : mg "tuple" = none
  b_zip : mg "zip" = none
  c_BOUND : ∃ t, mg "BOUND" = some (.int 1000000000000000000000000000000 t)
  c_LETTERS : ∃ t, mg "LETTERS" = some (.str "abcdefghijklmnopqrstuvwxyz" t)
  c_LONGEST : ∃ t, mg "LONGEST" = some (.int 40 t)
abbrev s_is_whole : Stmt := topS 4
theorem sc_is_whole : FnScope ["thing"] ["thing"] (defScope s_is_whole) := ⟨rfl, rfl, rfl, by decide +kernel, rfl, by decide +kernel, by decide +kernel⟩
noncomputable def g_is_whole : M Out :=
    (retM (andV (bnd (getL 0) (isaM "int")) (notV (bnd (getL 0) (isaM "bool")))))
noncomputable def F_is_whole : Pf := runP 1 g_is_whole
theorem ok_is_whole {P : Program} {wd : World} {K : PySem.W.Frag} {mg : Str → Option Value} {base : Heap} (T : Txt K mg) (F : Top K mg "is_whole" s_is_whole ["thing"])  :
    FnP P wd K mg base "is_whole" 1 1 F_is_whole :=
  F.fn sc_is_whole (by decide) fun f cdv A outer s H E hr =>
    ((dss_one (ds_ret (de_and (de_isa "int" T.b_isinstance T.b_int (de_v 0) (by decide +kernel)) (de_one (de_not (de_isa "bool" T.b_isinstance T.b_bool (de_v 0) (by decide +kernel))))))) : DSs _ W0 (defBody s_is_whole) g_is_whole)
abbrev s_is_text : Stmt := topS 5
theorem sc_is_text : FnScope ["thing", "sign"] ["thing"] (defScope s_is_text) := ⟨rfl, rfl, rfl, by decide +kernel, rfl, by decide +kernel, by decide +kernel⟩
noncomputable def b_is_text_1 : M Out :=
    (ifM (orT (tst (bin ltAM (getL 1) (ret (.str " ")))) (orT (tst (bin ltAM (ret (.str "~")) (getL 1))) (tst (bin eqM (bnd (consM (getL 1) (ret [])) ordM) (ret (.int 37)))))) (retM (ret (.bl false))) (ret .nx))
noncomputable def g_is_text : M Out :=
    (seqM (ifM (notT (tst (bnd (getL 0) (isaM "str")))) (retM (ret (.bl false))) (ret .nx))
    (seqM (forM (bnd (getL 0) seqI) (setL 1) b_is_text_1)
    (retM (ret (.bl true)))))
noncomputable def F_is_text : Pf := runP 2 g_is_text
theorem ok_is_text {P : Program} {wd : World} {K : PySem.W.Frag} {mg : Str → Option Value} {base : Heap} (T : Txt K mg) (F : Top K mg "is_text" s_is_text ["thing"])  :
    FnP P wd K mg base "is_text" 1 1 F_is_text :=
  F.fn sc_is_text (by decide) fun f cdv A outer s H E hr =>
    ((dss_cons (ds_if (dt_not (dt_val (de_isa "str" T.b_isinstance T.b_str (de_v 0) (by decide +kernel)))) (dss_one (ds_ret de_bl)) dss_nil)
    (dss_cons (ds_for PassesOwn.never rfl (di_seq (de_v 0)) (dg_name sc_is_text.nd) (dss_one (ds_if (dt_w (dw_or (dt_cmp (op_ltA (units_of hr)) rop_ltA (de_v 1) de_str) (dw_or (dt_cmp (op_ltA (units_of hr)) rop_ltA de_str (de_v 1)) (dw_or1 (dt_cmp (op_eqA (units_of hr)) rop_eq (de_callB call_ord rc_ord T.b_ord (da_cons (de_v 1) da_nil) (by decide +kernel)) de_int))))) (dss_one (ds_ret de_bl)) dss_nil)))
    (dss_one (ds_ret de_bl)))) : DSs _ W0 (defBody s_is_text) g_is_text)
abbrev s_is_number : Stmt := topS 6
theorem sc_is_number : FnScope ["thing"] ["thing"] (defScope s_is_number) := ⟨rfl, rfl, rfl, by decide +kernel, rfl, by decide +kernel, by decide +kernel⟩
noncomputable def g_is_number : M Out :=
    (retM (andV (bnd (consM (getL 0) (ret [])) (callP 1 F_is_whole)) (andV (bin ltAM (bin subM (ret (.int 0)) (ret (.int 1000000000000000000000000000000))) (getL 0)) (bin ltAM (getL 0) (ret (.int 1000000000000000000000000000000))))))
noncomputable def F_is_number : Pf := runP 1 g_is_number
theorem ok_is_number {P : Program} {wd : World} {K : PySem.W.Frag} {mg : Str → Option Value} {base : Heap} (T : Txt K mg) (F : Top K mg "is_number" s_is_number ["thing"]) (c_is_whole : FnP P wd K mg base "is_whole" 1 1 F_is_whole) :
    FnP P wd K mg base "is_number" 1 2 F_is_number :=
  F.fn sc_is_number (by decide) fun f cdv A outer s H E hr =>
    ((dss_one (ds_ret (de_and (de_callP c_is_whole (hr.mono (by decide)) (da_cons (de_v 0) da_nil)) (de_and (de_cmp (op_ltA (units_of hr)) rop_ltA (de_sub de_int (de_gI' T.c_BOUND)) (de_v 0)) (de_one (de_cmp (op_ltA (units_of hr)) rop_ltA (de_v 0) (de_gI' T.c_BOUND))))))) : DSs _ W0 (defBody s_is_number) g_is_number)
abbrev s_is_key : Stmt := topS 7
theorem sc_is_key : FnScope ["thing"] ["thing"] (defScope s_is_key) := ⟨rfl, rfl, rfl, by decide +kernel, rfl, by decide +kernel, by decide +kernel⟩
noncomputable def g_is_key : M Out :=
    (seqM (ifM (tst (bnd (getL 0) (isaM "str"))) (retM (andV (bin leM (ret (.int 1)) (bnd (consM (getL 0) (ret [])) lenM)) (andV (bin leM (bnd (consM (getL 0) (ret [])) lenM) (ret (.int 40))) (bnd (consM (getL 0) (ret [])) (callP 1 F_is_text))))) (ret .nx))
    (retM (bnd (consM (getL 0) (ret [])) (callP 1 F_is_number))))
noncomputable def F_is_key : Pf := runP 1 g_is_key
theorem ok_is_key {P : Program} {wd : World} {K : PySem.W.Frag} {mg : Str → Option Value} {base : Heap} (T : Txt K mg) (F : Top K mg "is_key" s_is_key ["thing"]) (c_is_text : FnP P wd K mg base "is_text" 1 1 F_is_text) (c_is_number : FnP P wd K mg base "is_number" 1 2 F_is_number) :
    FnP P wd K mg base "is_key" 1 3 F_is_key :=
  F.fn sc_is_key (by decide) fun f cdv A outer s H E hr =>
    ((dss_cons (ds_if (dt_val (de_isa "str" T.b_isinstance T.b_str (de_v 0) (by decide +kernel))) (dss_one (ds_ret (de_and (de_cmp op_le rop_le de_int (de_len T.b_len (da_cons (de_v 0) da_nil))) (de_and (de_cmp op_le rop_le (de_len T.b_len (da_cons (de_v 0) da_nil)) (de_gI' T.c_LONGEST)) (de_one (de_callP c_is_text (hr.mono (by decide)) (da_cons (de_v 0) da_nil))))))) dss_nil)
    (dss_one (ds_ret (de_callP c_is_number (hr.mono (by decide)) (da_cons (de_v 0) da_nil))))) : DSs _ W0 (defBody s_is_key) g_is_key)
abbrev s_is_plain : Stmt := topS 8
theorem sc_is_plain : FnScope ["thing"] ["thing"] (defScope s_is_plain) := ⟨rfl, rfl, rfl, by decide +kernel, rfl, by decide +kernel, by decide +kernel⟩
noncomputable def g_is_plain : M Out :=
    (seqM (ifM (tst (bnd (getL 0) (isaM "str"))) (retM (andV (bin leM (bnd (consM (getL 0) (ret [])) lenM) (ret (.int 40))) (bnd (consM (getL 0) (ret [])) (callP 1 F_is_text)))) (ret .nx))
    (retM (orV (bin isM (getL 0) (ret .non)) (bnd (consM (getL 0) (ret [])) (callP 1 F_is_number)))))
noncomputable def F_is_plain : Pf := runP 1 g_is_plain
theorem ok_is_plain {P : Program} {wd : World} {K : PySem.W.Frag} {mg : Str → Option Value} {base : Heap} (T : Txt K mg) (F : Top K mg "is_plain" s_is_plain ["thing"]) (c_is_text : FnP P wd K mg base "is_text" 1 1 F_is_text) (c_is_number : FnP P wd K mg base "is_number" 1 2 F_is_number) :
    FnP P wd K mg base "is_plain" 1 3 F_is_plain :=
  F.fn sc_is_plain (by decide) fun f cdv A outer s H E hr =>
    ((dss_cons (ds_if (dt_val (de_isa "str" T.b_isinstance T.b_str (de_v 0) (by decide +kernel))) (dss_one (ds_ret (de_and (de_cmp op_le rop_le (de_len T.b_len (da_cons (de_v 0) da_nil)) (de_gI' T.c_LONGEST)) (de_one (de_callP c_is_text (hr.mono (by decide)) (da_cons (de_v 0) da_nil)))))) dss_nil)
    (dss_one (ds_ret (de_or (de_cmp op_isN rop_is (de_v 0) de_non) (de_one (de_callP c_is_number (hr.mono (by decide)) (da_cons (de_v 0) da_nil))))))) : DSs _ W0 (defBody s_is_plain) g_is_plain)
abbrev s_before : Stmt := topS 9
theorem sc_before : FnScope ["one", "other"] ["one", "other"] (defScope s_before) := ⟨rfl, rfl, rfl, by decide +kernel, rfl, by decide +kernel, by decide +kernel⟩
noncomputable def g_before : M Out :=
    (seqM (ifM (orT (tst (bin isM (getL 0) (ret .non))) (tst (bin isM (getL 1) (ret .non)))) (retM (andV (bin isM (getL 0) (ret .non)) (bin isnotM (getL 1) (ret .non)))) (ret .nx))
    (seqM (ifM (tst (bnd (getL 0) (isaM "str"))) (retM (andV (bnd (getL 1) (isaM "str")) (bin ltAM (getL 0) (getL 1)))) (ret .nx))
    (retM (orV (bnd (getL 1) (isaM "str")) (bin ltAM (getL 0) (getL 1))))))
noncomputable def F_before : Pf := runP 2 g_before
theorem ok_before {P : Program} {wd : World} {K : PySem.W.Frag} {mg : Str → Option Value} {base : Heap} (T : Txt K mg) (F : Top K mg "before" s_before ["one", "other"])  :
    FnP P wd K mg base "before" 2 1 F_before :=
  F.fn sc_before (by decide) fun f cdv A outer s H E hr =>
    ((dss_cons (ds_if (dt_w (dw_or (dt_cmp op_isN rop_is (de_v 0) de_non) (dw_or1 (dt_cmp op_isN rop_is (de_v 1) de_non)))) (dss_one (ds_ret (de_and (de_cmp op_isN rop_is (de_v 0) de_non) (de_one (de_cmp op_notN rop_isnot (de_v 1) de_non))))) dss_nil)
    (dss_cons (ds_if (dt_val (de_isa "str" T.b_isinstance T.b_str (de_v 0) (by decide +kernel))) (dss_one (ds_ret (de_and (de_isa "str" T.b_isinstance T.b_str (de_v 1) (by decide +kernel)) (de_one (de_cmp (op_ltA (units_of hr)) rop_ltA (de_v 0) (de_v 1)))))) dss_nil)
    (dss_one (ds_ret (de_or (de_isa "str" T.b_isinstance T.b_str (de_v 1) (by decide +kernel)) (de_one (de_cmp (op_ltA (units_of hr)) rop_ltA (de_v 0) (de_v 1)))))))) : DSs _ W0 (defBody s_before) g_before)
abbrev s_is_clash : Stmt := topS 10
theorem sc_is_clash : FnScope ["thing", "now", "k"] ["thing"] (defScope s_is_clash) := ⟨rfl, rfl, rfl, by decide +kernel, rfl, by decide +kernel, by decide +kernel⟩
noncomputable def b_is_clash_1 : M Out :=
    (ifM (orT (notT (tst (bnd (consM (bin ixAM (getL 1) (getL 2)) (ret [])) (callP 1 F_is_plain)))) (notT (tst (bnd (consM (bin ixAM (getL 1) (bin subM (getL 2) (ret (.int 1)))) (consM (bin ixAM (getL 1) (getL 2)) (ret []))) (callP 2 F_before))))) (retM (ret (.bl false))) (ret .nx))
noncomputable def g_is_clash : M Out :=
    (seqM (ifM (orT (notT (tst (bnd (getL 0) (isaM "tuple")))) (orT (tst (bin neM (bnd (consM (getL 0) (ret [])) lenM) (ret (.int 2)))) (notT (tst (bnd (consM (bin ixAM (getL 0) (ret (.int 0))) (ret [])) (callP 1 F_is_plain)))))) (retM (ret (.bl false))) (ret .nx))
    (seqM (asgM (bin ixAM (getL 0) (ret (.int 1))) (setL 1))
    (seqM (ifM (orT (notT (tst (bnd (getL 1) (isaM "tuple")))) (orT (tst (bin ltAM (bnd (consM (getL 1) (ret [])) lenM) (ret (.int 2)))) (notT (tst (bnd (consM (bin ixAM (getL 1) (ret (.int 0))) (ret [])) (callP 1 F_is_plain)))))) (retM (ret (.bl false))) (ret .nx))
    (seqM (forM (bnd (consM (ret (.int 1)) (consM (bnd (consM (getL 1) (ret [])) lenM) (ret []))) ran2I) (setL 2) b_is_clash_1)
    (retM (ret (.bl true)))))))
noncomputable def F_is_clash : Pf := runP 3 g_is_clash
theorem ok_is_clash {P : Program} {wd : World} {K : PySem.W.Frag} {mg : Str → Option Value} {base : Heap} (T : Txt K mg) (F : Top K mg "is_clash" s_is_clash ["thing"]) (c_is_plain : FnP P wd K mg base "is_plain" 1 3 F_is_plain) (c_before : FnP P wd K mg base "before" 2 1 F_before) :
    FnP P wd K mg base "is_clash" 1 4 F_is_clash :=
  F.fn sc_is_clash (by decide) fun f cdv A outer s H E hr =>
    ((dss_cons (ds_if (dt_w (dw_or (dt_not (dt_val (de_isa "tuple" T.b_isinstance T.b_tuple (de_v 0) (by decide +kernel)))) (dw_or (dt_cmp (op_neA (units_of hr)) rop_ne (de_len T.b_len (da_cons (de_v 0) da_nil)) de_int) (dw_or1 (dt_not (dt_val (de_callP c_is_plain (hr.mono (by decide)) (da_cons (de_ixA (hu_of hr) (de_v 0) de_int) da_nil)))))))) (dss_one (ds_ret de_bl)) dss_nil)
    (dss_cons (ds_set 1 (de_ixA (hu_of hr) (de_v 0) de_int) sc_is_clash.nd)
    (dss_cons (ds_if (dt_w (dw_or (dt_not (dt_val (de_isa "tuple" T.b_isinstance T.b_tuple (de_v 1) (by decide +kernel)))) (dw_or (dt_cmp (op_ltA (units_of hr)) rop_ltA (de_len T.b_len (da_cons (de_v 1) da_nil)) de_int) (dw_or1 (dt_not (dt_val (de_callP c_is_plain (hr.mono (by decide)) (da_cons (de_ixA (hu_of hr) (de_v 1) de_int) da_nil)))))))) (dss_one (ds_ret de_bl)) dss_nil)
    (dss_cons (ds_for PassesOwn.never rfl (di_range2 T.b_range (da_cons de_int (da_cons (de_len T.b_len (da_cons (de_v 1) da_nil)) da_nil))) (dg_name sc_is_clash.nd) (dss_one (ds_if (dt_w (dw_or (dt_not (dt_val (de_callP c_is_plain (hr.mono (by decide)) (da_cons (de_ixA (hu_of hr) (de_v 1) (de_v 2)) da_nil)))) (dw_or1 (dt_not (dt_val (de_callP c_before (hr.mono (by decide)) (da_cons (de_ixA (hu_of hr) (de_v 1) (de_sub (de_v 2) de_int)) (da_cons (de_ixA (hu_of hr) (de_v 1) (de_v 2)) da_nil)))))))) (dss_one (ds_ret de_bl)) dss_nil)))
    (dss_one (ds_ret de_bl)))))) : DSs _ W0 (defBody s_is_clash) g_is_clash)
abbrev s_is_value : Stmt := topS 11
theorem sc_is_value : FnScope ["thing"] ["thing"] (defScope s_is_value) := ⟨rfl, rfl, rfl, by decide +kernel, rfl, by decide +kernel, by decide +kernel⟩
noncomputable def g_is_value : M Out :=
    (retM (orV (bnd (consM (getL 0) (ret [])) (callP 1 F_is_plain)) (bnd (consM (getL 0) (ret [])) (callP 1 F_is_clash))))
noncomputable def F_is_value : Pf := runP 1 g_is_value
theorem ok_is_value {P : Program} {wd : World} {K : PySem.W.Frag} {mg : Str → Option Value} {base : Heap} (T : Txt K mg) (F : Top K mg "is_value" s_is_value ["thing"]) (c_is_plain : FnP P wd K mg base "is_plain" 1 3 F_is_plain) (c_is_clash : FnP P wd K mg base "is_clash" 1 4 F_is_clash) :
    FnP P wd K mg base "is_value" 1 5 F_is_value :=
  F.fn sc_is_value (by decide) fun f cdv A outer s H E hr =>
    ((dss_one (ds_ret (de_or (de_callP c_is_plain (hr.mono (by decide)) (da_cons (de_v 0) da_nil)) (de_one (de_callP c_is_clash (hr.mono (by decide)) (da_cons (de_v 0) da_nil)))))) : DSs _ W0 (defBody s_is_value) g_is_value)
abbrev s_is_word : Stmt := topS 12
theorem sc_is_word : FnScope ["thing", "sign"] ["thing"] (defScope s_is_word) := ⟨rfl, rfl, rfl, by decide +kernel, rfl, by decide +kernel, by decide +kernel⟩
noncomputable def b_is_word_1 : M Out :=
    (ifM (tst (bin ninAM (getL 1) (ret (.str "abcdefghijklmnopqrstuvwxyz")))) (retM (ret (.bl false))) (ret .nx))
noncomputable def g_is_word : M Out :=
    (seqM (ifM (orT (notT (tst (bnd (getL 0) (isaM "str")))) (orT (tst (bin ltAM (bnd (consM (getL 0) (ret [])) lenM) (ret (.int 1)))) (tst (bin gtM (bnd (consM (getL 0) (ret [])) lenM) (ret (.int 12)))))) (retM (ret (.bl false))) (ret .nx))
    (seqM (forM (bnd (getL 0) seqI) (setL 1) b_is_word_1)
    (retM (ret (.bl true)))))
noncomputable def F_is_word : Pf := runP 2 g_is_word
theorem ok_is_word {P : Program} {wd : World} {K : PySem.W.Frag} {mg : Str → Option Value} {base : Heap} (T : Txt K mg) (F : Top K mg "is_word" s_is_word ["thing"])  :
    FnP P wd K mg base "is_word" 1 1 F_is_word :=
  F.fn sc_is_word (by decide) fun f cdv A outer s H E hr =>
    ((dss_cons (ds_if (dt_w (dw_or (dt_not (dt_val (de_isa "str" T.b_isinstance T.b_str (de_v 0) (by decide +kernel)))) (dw_or (dt_cmp (op_ltA (units_of hr)) rop_ltA (de_len T.b_len (da_cons (de_v 0) da_nil)) de_int) (dw_or1 (dt_cmp op_gt rop_gt (de_len T.b_len (da_cons (de_v 0) da_nil)) de_int))))) (dss_one (ds_ret de_bl)) dss_nil)
    (dss_cons (ds_for PassesOwn.never rfl (di_seq (de_v 0)) (dg_name sc_is_word.nd) (dss_one (ds_if (dt_ninA (units_of hr) (de_v 1) (de_gS' T.c_LETTERS)) (dss_one (ds_ret de_bl)) dss_nil)))
    (dss_one (ds_ret de_bl)))) : DSs _ W0 (defBody s_is_word) g_is_word)
abbrev s_l_mix : Stmt := topS 14
theorem sc_l_mix : FnScope ["_law_cell", "_law_k", "_law_number_here"] ["_law_cell", "_law_k"] (defScope s_l_mix) := ⟨rfl, rfl, rfl, by decide +kernel, rfl, by decide +kernel, by decide +kernel⟩
noncomputable def g_l_mix : M Out :=
    (seqM (asgM (bin modM (bin mulM (bin addM (bin addM (bin modM (getL 0) (ret (.int 2147483647))) (bin mulM (ret (.int 7919)) (getL 1))) (ret (.int 1))) (ret (.int 48271))) (ret (.int 2147483647))) (setL 2))
    (retM (bin modM (bin addM (bin mulM (getL 2) (getL 2)) (getL 1)) (ret (.int 2147483629)))))
noncomputable def F_l_mix : Pf := runP 3 g_l_mix
theorem ok_l_mix {P : Program} {wd : World} {K : PySem.W.Frag} {mg : Str → Option Value} {base : Heap} (T : Txt K mg) (F : Top K mg "_law_mix" s_l_mix ["_law_cell", "_law_k"])  :
    FnP P wd K mg base "_law_mix" 2 1 F_l_mix :=
  F.fn sc_l_mix (by decide) fun f cdv A outer s H E hr =>
    ((dss_cons (ds_set 2 (de_mod (de_mul (de_add (de_add (de_mod (de_v 0) de_int) (de_mul de_int (de_v 1))) de_int) de_int) de_int) sc_l_mix.nd)
    (dss_one (ds_ret (de_mod (de_add (de_mul (de_v 2) (de_v 2)) (de_v 1)) de_int)))) : DSs _ W0 (defBody s_l_mix) g_l_mix)
abbrev s_l_sign : Stmt := topS 15
theorem sc_l_sign : FnScope ["_law_number_here", "_law_some"] ["_law_number_here"] (defScope s_l_sign) := ⟨rfl, rfl, rfl, by decide +kernel, rfl, by decide +kernel, by decide +kernel⟩
noncomputable def g_l_sign : M Out :=
    (seqM (asgM (ret (.str " !\"#$&'()*+,-./0123456789:;<=>?@ABCDEFGHIJKLMNOPQRSTUVWXYZ[\\]^_`")) (setL 1))
    (seqM (asgM (bin addM (getL 1) (ret (.str "abcdefghijklmnopqrstuvwxyz{|}~"))) (setL 1))
    (retM (bin ixAM (getL 1) (bin modM (getL 0) (ret (.int 94)))))))
noncomputable def F_l_sign : Pf := runP 2 g_l_sign
theorem ok_l_sign {P : Program} {wd : World} {K : PySem.W.Frag} {mg : Str → Option Value} {base : Heap} (T : Txt K mg) (F : Top K mg "_law_sign" s_l_sign ["_law_number_here"])  :
    FnP P wd K mg base "_law_sign" 1 1 F_l_sign :=
  F.fn sc_l_sign (by decide) fun f cdv A outer s H E hr =>
    ((dss_cons (ds_set 1 de_str sc_l_sign.nd)
    (dss_cons (ds_set 1 (de_add (de_v 1) de_str) sc_l_sign.nd)
    (dss_one (ds_ret (de_ixA (hu_of hr) (de_v 1) (de_mod (de_v 0) de_int)))))) : DSs _ W0 (defBody s_l_sign) g_l_sign)
abbrev s_l_number : Stmt := topS 16
theorem sc_l_number : FnScope ["_law_cell", "_law_rest"] ["_law_cell"] (defScope s_l_number) := ⟨rfl, rfl, rfl, by decide +kernel, rfl, by decide +kernel, by decide +kernel⟩
noncomputable def g_l_number : M Out :=
    (seqM (asgM (bin divM (getL 0) (ret (.int 4))) (setL 1))
    (seqM (ifM (tst (bin eqM (bin modM (getL 0) (ret (.int 4))) (ret (.int 0)))) (retM (bin subM (bin modM (getL 1) (ret (.int 21))) (ret (.int 10)))) (ret .nx))
    (seqM (ifM (tst (bin eqM (bin modM (getL 0) (ret (.int 4))) (ret (.int 1)))) (retM (bin subM (bin modM (bin mulM (getL 1) (ret (.int 612345678901234567890123456789))) (bin addM (bin mulM (ret (.int 4)) (bin powM (ret (.int 10)) (ret (.int 30)))) (ret (.int 1)))) (bin mulM (ret (.int 2)) (bin powM (ret (.int 10)) (ret (.int 30)))))) (ret .nx))
    (seqM (ifM (tst (bin eqM (bin modM (getL 0) (ret (.int 4))) (ret (.int 2)))) (retM (bin addM (bin subM (bin powM (ret (.int 10)) (ret (.int 30))) (ret (.int 2))) (bin modM (getL 1) (ret (.int 5))))) (ret .nx))
    (retM (bin subM (bin subM (ret (.int 2)) (bin powM (ret (.int 10)) (ret (.int 30)))) (bin modM (getL 1) (ret (.int 5)))))))))
noncomputable def F_l_number : Pf := runP 2 g_l_number
theorem ok_l_number {P : Program} {wd : World} {K : PySem.W.Frag} {mg : Str → Option Value} {base : Heap} (T : Txt K mg) (F : Top K mg "_law_number" s_l_number ["_law_cell"])  :
    FnP P wd K mg base "_law_number" 1 1 F_l_number :=
  F.fn sc_l_number (by decide) fun f cdv A outer s H E hr =>
    ((dss_cons (ds_set 1 (de_div (de_v 0) de_int) sc_l_number.nd)
    (dss_cons (ds_if (dt_cmp (op_eqA (units_of hr)) rop_eq (de_mod (de_v 0) de_int) de_int) (dss_one (ds_ret (de_sub (de_mod (de_v 1) de_int) de_int))) dss_nil)
    (dss_cons (ds_if (dt_cmp (op_eqA (units_of hr)) rop_eq (de_mod (de_v 0) de_int) de_int) (dss_one (ds_ret (de_sub (de_mod (de_mul (de_v 1) de_int) (de_add (de_mul de_int (de_pow de_int de_int)) de_int)) (de_mul de_int (de_pow de_int de_int))))) dss_nil)
    (dss_cons (ds_if (dt_cmp (op_eqA (units_of hr)) rop_eq (de_mod (de_v 0) de_int) de_int) (dss_one (ds_ret (de_add (de_sub (de_pow de_int de_int) de_int) (de_mod (de_v 1) de_int)))) dss_nil)
    (dss_one (ds_ret (de_sub (de_sub de_int (de_pow de_int de_int)) (de_mod (de_v 1) de_int)))))))) : DSs _ W0 (defBody s_l_number) g_l_number)
abbrev s_l_spoiled : Stmt := topS 17
theorem sc_l_spoiled : FnScope ["_law_cell", "_law_some", "_law_odd", "_law_at"] ["_law_cell", "_law_some", "_law_odd"] (defScope s_l_spoiled) := ⟨rfl, rfl, rfl, by decide +kernel, rfl, by decide +kernel, by decide +kernel⟩
noncomputable def g_l_spoiled : M Out :=
    (seqM (asgM (bin modM (getL 0) (bin addM (bnd (consM (getL 1) (ret [])) lenM) (ret (.int 1)))) (setL 3))
    (retM (bin addM (bin addM (slM (getL 1) (ret none) (partM (getL 3))) (getL 2)) (slM (getL 1) (partM (getL 3)) (ret none)))))
noncomputable def F_l_spoiled : Pf := runP 4 g_l_spoiled
theorem ok_l_spoiled {P : Program} {wd : World} {K : PySem.W.Frag} {mg : Str → Option Value} {base : Heap} (T : Txt K mg) (F : Top K mg "_law_spoiled" s_l_spoiled ["_law_cell", "_law_some", "_law_odd"])  :
    FnP P wd K mg base "_law_spoiled" 3 1 F_l_spoiled :=
  F.fn sc_l_spoiled (by decide) fun f cdv A outer s H E hr =>
    ((dss_cons (ds_set 3 (de_mod (de_v 0) (de_add (de_len T.b_len (da_cons (de_v 1) da_nil)) de_int)) sc_l_spoiled.nd)
    (dss_one (ds_ret (de_add (de_add (de_sl (de_v 1) do_none (do_some (de_v 3))) (de_v 2)) (de_sl (de_v 1) (do_some (de_v 3)) do_none))))) : DSs _ W0 (defBody s_l_spoiled) g_l_spoiled)
abbrev s_l_long : Stmt := topS 18
theorem sc_l_long : FnScope ["_law_cell", "_law_some", "_law_k"] ["_law_cell"] (defScope s_l_long) := ⟨rfl, rfl, rfl, by decide +kernel, rfl, by decide +kernel, by decide +kernel⟩
noncomputable def c_l_long_1 : M Cell :=
    (lcM (bnd (consM (bin modM (bnd (consM (getL 0) (consM (ret (.int 50)) (ret []))) (callP 2 F_l_mix)) (ret (.int 43))) (ret [])) ran1I) 2 yesM (bnd (consM (bnd (consM (getL 0) (consM (getL 2) (ret []))) (callP 2 F_l_mix)) (ret [])) (callP 1 F_l_sign)))
noncomputable def g_l_long : M Out :=
    (seqM (asgM (jnM (ret (.str "")) (frzM c_l_long_1)) (setL 1))
    (seqM (ifM (tst (bin eqM (bin modM (getL 0) (ret (.int 4))) (ret (.int 1)))) (retM (bnd (consM (bin divM (getL 0) (ret (.int 4))) (consM (getL 1) (consM (ret (.str "\n")) (ret [])))) (callP 3 F_l_spoiled))) (ret .nx))
    (seqM (ifM (tst (bin eqM (bin modM (getL 0) (ret (.int 8))) (ret (.int 2)))) (retM (bnd (consM (bin divM (getL 0) (ret (.int 8))) (consM (getL 1) (consM (ret (.str "\t")) (ret [])))) (callP 3 F_l_spoiled))) (ret .nx))
    (retM (getL 1)))))
noncomputable def F_l_long : Pf := runP 3 g_l_long
theorem ok_l_long {P : Program} {wd : World} {K : PySem.W.Frag} {mg : Str → Option Value} {base : Heap} (T : Txt K mg) (F : Top K mg "_law_long" s_l_long ["_law_cell"]) (c_l_mix : FnP P wd K mg base "_law_mix" 2 1 F_l_mix) (c_l_sign : FnP P wd K mg base "_law_sign" 1 1 F_l_sign) (c_l_spoiled : FnP P wd K mg base "_law_spoiled" 3 1 F_l_spoiled) :
    FnP P wd K mg base "_law_long" 1 2 F_l_long :=
  F.fn sc_l_long (by decide) fun f cdv A outer s H E hr =>
    ((dss_cons (ds_set 1 (de_join de_str (de_frz (dn_lc rfl sc_l_long.nd (di_range1 T.b_range (da_cons (de_mod (de_callP c_l_mix (hr.mono (by decide)) (da_cons (de_v 0) (da_cons de_int da_nil))) de_int) da_nil)) (blkOk_by (own := [("_law_k", 2)]) (N := ["_law_cell", "_law_some", "_law_k"]) (sc := defScope s_l_long) (by decide +kernel)) (fun _ _ _ _ _ => pg_n (i := 2) sc_l_long.nd) (fun _ _ _ _ _ => tests_nil) (fun _ _ _ _ _ => (de_callP c_l_sign (hr.mono (by decide)) (da_cons (de_callP c_l_mix (hr.mono (by decide)) (da_cons (de_v 0) (da_cons (de_v 2) da_nil))) da_nil)))))) sc_l_long.nd)
    (dss_cons (ds_if (dt_cmp (op_eqA (units_of hr)) rop_eq (de_mod (de_v 0) de_int) de_int) (dss_one (ds_ret (de_callP c_l_spoiled (hr.mono (by decide)) (da_cons (de_div (de_v 0) de_int) (da_cons (de_v 1) (da_cons de_str da_nil)))))) dss_nil)
    (dss_cons (ds_if (dt_cmp (op_eqA (units_of hr)) rop_eq (de_mod (de_v 0) de_int) de_int) (dss_one (ds_ret (de_callP c_l_spoiled (hr.mono (by decide)) (da_cons (de_div (de_v 0) de_int) (da_cons (de_v 1) (da_cons de_str da_nil)))))) dss_nil)
    (dss_one (ds_ret (de_v 1)))))) : DSs _ W0 (defBody s_l_long) g_l_long)
abbrev s_l_letters : Stmt := topS 19
theorem sc_l_letters : FnScope ["_law_cell", "_law_letters_here", "_law_some", "_law_k"] ["_law_cell"] (defScope s_l_letters) := ⟨rfl, rfl, rfl, by decide +kernel, rfl, by decide +kernel, by decide +kernel⟩
noncomputable def c_l_letters_1 : M Cell :=
    (lcM (bnd (consM (bin modM (bnd (consM (getL 0) (consM (ret (.int 50)) (ret []))) (callP 2 F_l_mix)) (ret (.int 14))) (ret [])) ran1I) 3 yesM (bin ixAM (getL 1) (bin modM (bnd (consM (getL 0) (consM (getL 3) (ret []))) (callP 2 F_l_mix)) (ret (.int 26)))))
noncomputable def g_l_letters : M Out :=
    (seqM (asgM (ret (.str "abcdefghijklmnopqrstuvwxyz")) (setL 1))
    (seqM (asgM (jnM (ret (.str "")) (frzM c_l_letters_1)) (setL 2))
    (seqM (ifM (tst (bin eqM (bin modM (getL 0) (ret (.int 3))) (ret (.int 1)))) (retM (bnd (consM (bin divM (getL 0) (ret (.int 3))) (consM (getL 2) (consM (bnd (consM (bnd (consM (getL 0) (consM (ret (.int 51)) (ret []))) (callP 2 F_l_mix)) (ret [])) (callP 1 F_l_sign)) (ret [])))) (callP 3 F_l_spoiled))) (ret .nx))
    (retM (getL 2)))))
noncomputable def F_l_letters : Pf := runP 4 g_l_letters
theorem ok_l_letters {P : Program} {wd : World} {K : PySem.W.Frag} {mg : Str → Option Value} {base : Heap} (T : Txt K mg) (F : Top K mg "_law_letters" s_l_letters ["_law_cell"]) (c_l_mix : FnP P wd K mg base "_law_mix" 2 1 F_l_mix) (c_l_spoiled : FnP P wd K mg base "_law_spoiled" 3 1 F_l_spoiled) (c_l_sign : FnP P wd K mg base "_law_sign" 1 1 F_l_sign) :
    FnP P wd K mg base "_law_letters" 1 2 F_l_letters :=
  F.fn sc_l_letters (by decide) fun f cdv A outer s H E hr =>
    ((dss_cons (ds_set 1 de_str sc_l_letters.nd)
    (dss_cons (ds_set 2 (de_join de_str (de_frz (dn_lc rfl sc_l_letters.nd (di_range1 T.b_range (da_cons (de_mod (de_callP c_l_mix (hr.mono (by decide)) (da_cons (de_v 0) (da_cons de_int da_nil))) de_int) da_nil)) (blkOk_by (own := [("_law_k", 3)]) (N := ["_law_cell", "_law_letters_here", "_law_some", "_law_k"]) (sc := defScope s_l_letters) (by decide +kernel)) (fun _ _ _ _ _ => pg_n (i := 3) sc_l_letters.nd) (fun _ _ _ _ _ => tests_nil) (fun _ _ _ _ _ => (de_ixA (hu_of hr) (de_v 1) (de_mod (de_callP c_l_mix (hr.mono (by decide)) (da_cons (de_v 0) (da_cons (de_v 3) da_nil))) de_int)))))) sc_l_letters.nd)
    (dss_cons (ds_if (dt_cmp (op_eqA (units_of hr)) rop_eq (de_mod (de_v 0) de_int) de_int) (dss_one (ds_ret (de_callP c_l_spoiled (hr.mono (by decide)) (da_cons (de_div (de_v 0) de_int) (da_cons (de_v 2) (da_cons (de_callP c_l_sign (hr.mono (by decide)) (da_cons (de_callP c_l_mix (hr.mono (by decide)) (da_cons (de_v 0) (da_cons de_int da_nil))) da_nil)) da_nil)))))) dss_nil)
    (dss_one (ds_ret (de_v 2)))))) : DSs _ W0 (defBody s_l_letters) g_l_letters)
abbrev s_l_other : Stmt := topS 20
theorem sc_l_other : FnScope ["_law_number_here", "_law_some"] ["_law_number_here"] (defScope s_l_other) := ⟨rfl, rfl, rfl, by decide +kernel, rfl, by decide +kernel, by decide +kernel⟩
noncomputable def g_l_other : M Out :=
    (seqM (asgM (frzM (lstN (consM (ret .non) (consM (ret (.bl true)) (consM (ret (.bl false)) (consM (frzM (lstN (ret []))) (consM (frzE (ret (.dct []))) (consM (tupM (ret [])) (consM (tupM (consM (ret (.int 5)) (consM (tupM (consM (ret (.int 1)) (consM (ret (.int 2)) (ret [])))) (ret [])))) (consM (frzM (lstN (consM (ret (.int 5)) (consM (tupM (consM (ret (.int 1)) (consM (ret (.int 2)) (ret [])))) (ret []))))) (consM (tupM (consM (ret (.int 5)) (consM (frzM (lstN (consM (ret (.int 1)) (consM (ret (.int 2)) (ret []))))) (ret [])))) (consM (tupM (consM (ret (.int 5)) (ret []))) (consM (tupM (consM (ret (.int 5)) (consM (ret (.int 7)) (ret [])))) (consM (tupM (consM (ret (.int 5)) (consM (ret (.str "ab")) (ret [])))) (ret []))))))))))))))) (setL 1))
    (retM (bin ixAM (getL 1) (bin modM (getL 0) (ret (.int 12))))))
noncomputable def F_l_other : Pf := runP 2 g_l_other
theorem ok_l_other {P : Program} {wd : World} {K : PySem.W.Frag} {mg : Str → Option Value} {base : Heap} (T : Txt K mg) (F : Top K mg "_law_other" s_l_other ["_law_number_here"])  :
    FnP P wd K mg base "_law_other" 1 1 F_l_other :=
  F.fn sc_l_other (by decide) fun f cdv A outer s H E hr =>
    ((dss_cons (ds_set 1 (de_frz (dn_lst (da_cons de_non (da_cons de_bl (da_cons de_bl (da_cons (de_frz (dn_lst da_nil)) (da_cons (de_frzE dn_dict0) (da_cons (de_tup da_nil) (da_cons (de_tup (da_cons de_int (da_cons (de_tup (da_cons de_int (da_cons de_int da_nil))) da_nil))) (da_cons (de_frz (dn_lst (da_cons de_int (da_cons (de_tup (da_cons de_int (da_cons de_int da_nil))) da_nil)))) (da_cons (de_tup (da_cons de_int (da_cons (de_frz (dn_lst (da_cons de_int (da_cons de_int da_nil)))) da_nil))) (da_cons (de_tup (da_cons de_int da_nil)) (da_cons (de_tup (da_cons de_int (da_cons de_int da_nil))) (da_cons (de_tup (da_cons de_int (da_cons de_str da_nil))) da_nil)))))))))))))) sc_l_other.nd)
    (dss_one (ds_ret (de_ixA (hu_of hr) (de_v 1) (de_mod (de_v 0) de_int))))) : DSs _ W0 (defBody s_l_other) g_l_other)
abbrev s_l_single : Stmt := topS 21
theorem sc_l_single : FnScope ["_law_cell", "_law_rest"] ["_law_cell"] (defScope s_l_single) := ⟨rfl, rfl, rfl, by decide +kernel, rfl, by decide +kernel, by decide +kernel⟩
noncomputable def g_l_single : M Out :=
    (seqM (asgM (bin divM (getL 0) (ret (.int 8))) (setL 1))
    (seqM (ifM (tst (bin ltAM (bin modM (getL 0) (ret (.int 8))) (ret (.int 3)))) (retM (bnd (consM (getL 1) (ret [])) (callP 1 F_l_number))) (ret .nx))
    (seqM (ifM (tst (bin ltAM (bin modM (getL 0) (ret (.int 8))) (ret (.int 5)))) (retM (bnd (consM (getL 1) (ret [])) (callP 1 F_l_long))) (ret .nx))
    (seqM (ifM (tst (bin eqM (bin modM (getL 0) (ret (.int 8))) (ret (.int 5)))) (retM (bnd (consM (getL 1) (ret [])) (callP 1 F_l_letters))) (ret .nx))
    (retM (bnd (consM (getL 1) (ret [])) (callP 1 F_l_other)))))))
noncomputable def F_l_single : Pf := runP 2 g_l_single
theorem ok_l_single {P : Program} {wd : World} {K : PySem.W.Frag} {mg : Str → Option Value} {base : Heap} (T : Txt K mg) (F : Top K mg "_law_single" s_l_single ["_law_cell"]) (c_l_number : FnP P wd K mg base "_law_number" 1 1 F_l_number) (c_l_long : FnP P wd K mg base "_law_long" 1 2 F_l_long) (c_l_letters : FnP P wd K mg base "_law_letters" 1 2 F_l_letters) (c_l_other : FnP P wd K mg base "_law_other" 1 1 F_l_other) :
    FnP P wd K mg base "_law_single" 1 3 F_l_single :=
  F.fn sc_l_single (by decide) fun f cdv A outer s H E hr =>
    ((dss_cons (ds_set 1 (de_div (de_v 0) de_int) sc_l_single.nd)
    (dss_cons (ds_if (dt_cmp (op_ltA (units_of hr)) rop_ltA (de_mod (de_v 0) de_int) de_int) (dss_one (ds_ret (de_callP c_l_number (hr.mono (by decide)) (da_cons (de_v 1) da_nil)))) dss_nil)
    (dss_cons (ds_if (dt_cmp (op_ltA (units_of hr)) rop_ltA (de_mod (de_v 0) de_int) de_int) (dss_one (ds_ret (de_callP c_l_long (hr.mono (by decide)) (da_cons (de_v 1) da_nil)))) dss_nil)
    (dss_cons (ds_if (dt_cmp (op_eqA (units_of hr)) rop_eq (de_mod (de_v 0) de_int) de_int) (dss_one (ds_ret (de_callP c_l_letters (hr.mono (by decide)) (da_cons (de_v 1) da_nil)))) dss_nil)
    (dss_one (ds_ret (de_callP c_l_other (hr.mono (by decide)) (da_cons (de_v 1) da_nil)))))))) : DSs _ W0 (defBody s_l_single) g_l_single)
abbrev s_l_whole : Stmt := topS 22
theorem sc_l_whole : FnScope ["_law_thing"] ["_law_thing"] (defScope s_l_whole) := ⟨rfl, rfl, rfl, by decide +kernel, rfl, by decide +kernel, by decide +kernel⟩
noncomputable def g_l_whole : M Out :=
    (retM (andV (bnd (getL 0) (isaM "int")) (notV (bnd (getL 0) (isaM "bool")))))
noncomputable def F_l_whole : Pf := runP 1 g_l_whole
theorem ok_l_whole {P : Program} {wd : World} {K : PySem.W.Frag} {mg : Str → Option Value} {base : Heap} (T : Txt K mg) (F : Top K mg "_law_whole" s_l_whole ["_law_thing"])  :
    FnP P wd K mg base "_law_whole" 1 1 F_l_whole :=
  F.fn sc_l_whole (by decide) fun f cdv A outer s H E hr =>
    ((dss_one (ds_ret (de_and (de_isa "int" T.b_isinstance T.b_int (de_v 0) (by decide +kernel)) (de_one (de_not (de_isa "bool" T.b_isinstance T.b_bool (de_v 0) (by decide +kernel))))))) : DSs _ W0 (defBody s_l_whole) g_l_whole)
abbrev s_l_plain : Stmt := topS 23
theorem sc_l_plain : FnScope ["_law_thing"] ["_law_thing"] (defScope s_l_plain) := ⟨rfl, rfl, rfl, by decide +kernel, rfl, by decide +kernel, by decide +kernel⟩
noncomputable def g_l_plain : M Out :=
    (seqM (ifM (tst (bnd (getL 0) (isaM "str"))) (retM (andV (bin ltAM (bnd (consM (getL 0) (ret [])) lenM) (ret (.int 41))) (andV (bin ninAM (ret (.str "\n")) (getL 0)) (bin ninAM (ret (.str "\t")) (getL 0))))) (ret .nx))
    (seqM (ifM (tst (bnd (consM (getL 0) (ret [])) (callP 1 F_l_whole))) (retM (bin ltAM (bnd (consM (getL 0) (ret [])) absM) (bin powM (ret (.int 10)) (ret (.int 30))))) (ret .nx))
    (retM (bin isM (getL 0) (ret .non)))))
noncomputable def F_l_plain : Pf := runP 1 g_l_plain
theorem ok_l_plain {P : Program} {wd : World} {K : PySem.W.Frag} {mg : Str → Option Value} {base : Heap} (T : Txt K mg) (F : Top K mg "_law_plain" s_l_plain ["_law_thing"]) (c_l_whole : FnP P wd K mg base "_law_whole" 1 1 F_l_whole) :
    FnP P wd K mg base "_law_plain" 1 2 F_l_plain :=
  F.fn sc_l_plain (by decide) fun f cdv A outer s H E hr =>
    ((dss_cons (ds_if (dt_val (de_isa "str" T.b_isinstance T.b_str (de_v 0) (by decide +kernel))) (dss_one (ds_ret (de_and (de_cmp (op_ltA (units_of hr)) rop_ltA (de_len T.b_len (da_cons (de_v 0) da_nil)) de_int) (de_and (de_ninA (units_of hr) de_str (de_v 0)) (de_one (de_ninA (units_of hr) de_str (de_v 0))))))) dss_nil)
    (dss_cons (ds_if (dt_val (de_callP c_l_whole (hr.mono (by decide)) (da_cons (de_v 0) da_nil))) (dss_one (ds_ret (de_cmp (op_ltA (units_of hr)) rop_ltA (de_callB call_abs rc_abs T.b_abs (da_cons (de_v 0) da_nil) (by decide +kernel)) (de_pow de_int de_int)))) dss_nil)
    (dss_one (ds_ret (de_cmp op_isN rop_is (de_v 0) de_non))))) : DSs _ W0 (defBody s_l_plain) g_l_plain)
abbrev s_l_rank : Stmt := topS 24
theorem sc_l_rank : FnScope ["_law_thing"] ["_law_thing"] (defScope s_l_rank) := ⟨rfl, rfl, rfl, by decide +kernel, rfl, by decide +kernel, by decide +kernel⟩
noncomputable def g_l_rank : M Out :=
    (seqM (ifM (tst (bin isM (getL 0) (ret .non))) (retM (tupM (consM (ret (.int 0)) (consM (ret (.int 0)) (consM (ret (.str "")) (ret [])))))) (ret .nx))
    (seqM (ifM (tst (bnd (getL 0) (isaM "str"))) (retM (tupM (consM (ret (.int 2)) (consM (ret (.int 0)) (consM (getL 0) (ret [])))))) (ret .nx))
    (retM (tupM (consM (ret (.int 1)) (consM (getL 0) (consM (ret (.str "")) (ret []))))))))
noncomputable def F_l_rank : Pf := runP 1 g_l_rank
theorem ok_l_rank {P : Program} {wd : World} {K : PySem.W.Frag} {mg : Str → Option Value} {base : Heap} (T : Txt K mg) (F : Top K mg "_law_rank" s_l_rank ["_law_thing"])  :
    FnP P wd K mg base "_law_rank" 1 1 F_l_rank :=
  F.fn sc_l_rank (by decide) fun f cdv A outer s H E hr =>
    ((dss_cons (ds_if (dt_cmp op_isN rop_is (de_v 0) de_non) (dss_one (ds_ret (de_tup (da_cons de_int (da_cons de_int (da_cons de_str da_nil)))))) dss_nil)
    (dss_cons (ds_if (dt_val (de_isa "str" T.b_isinstance T.b_str (de_v 0) (by decide +kernel))) (dss_one (ds_ret (de_tup (da_cons de_int (da_cons de_int (da_cons (de_v 0) da_nil)))))) dss_nil)
    (dss_one (ds_ret (de_tup (da_cons de_int (da_cons (de_v 0) (da_cons de_str da_nil)))))))) : DSs _ W0 (defBody s_l_rank) g_l_rank)
abbrev s_l_rising : Stmt := topS 25
theorem sc_l_rising : FnScope ["_law_things", "_law_found", "_law_thing", "_law_x"] ["_law_things"] (defScope s_l_rising) := ⟨rfl, rfl, rfl, by decide +kernel, rfl, by decide +kernel, by decide +kernel⟩
noncomputable def c_l_rising_1 : M Cell :=
    (lcM (bnd (getL 0) seqI) 3 (tst (bnd (consM (getL 3) (ret [])) (callP 1 F_l_plain))) (getL 3))
noncomputable def b_l_rising_1 : M Out :=
    (ifM (orT (tst (bin eqM (getL 1) (frzM (lstN (ret []))))) (tst (bin ltAM (bnd (consM (bin ixAM (getL 1) (bnd (ret (.int 1)) negM)) (ret [])) (callP 1 F_l_rank)) (bnd (consM (getL 2) (ret [])) (callP 1 F_l_rank))))) (dropM (methM "list" (getL 1) (consM (getL 2) (ret [])) appM)) (ret .nx))
noncomputable def g_l_rising : M Out :=
    (seqM (asgM (ownM (lstN (ret []))) (setL 1))
    (seqM (forM (bnd (frzM (bnd (frzM c_l_rising_1) (sortKN F_l_rank))) seqI) (setL 2) b_l_rising_1)
    (retM (getL 1))))
noncomputable def F_l_rising : Pf := runP 4 g_l_rising
theorem ok_l_rising {P : Program} {wd : World} {K : PySem.W.Frag} {mg : Str → Option Value} {base : Heap} (T : Txt K mg) (F : Top K mg "_law_rising" s_l_rising ["_law_things"]) (c_l_rank : FnP P wd K mg base "_law_rank" 1 1 F_l_rank) (c_l_plain : FnP P wd K mg base "_law_plain" 1 2 F_l_plain) :
    FnP P wd K mg base "_law_rising" 1 4 F_l_rising :=
  F.fn sc_l_rising (by decide) fun f cdv A outer s H E hr =>
    ((dss_cons (ds_set 1 (de_own (dn_lst da_nil)) sc_l_rising.nd)
    (dss_cons (ds_for PassesOwn.never rfl (di_seq (de_frz (dn_sortK T.b_sorted c_l_rank (hr.mono (by decide)) (de_frz (dn_lc rfl sc_l_rising.nd (di_seq (de_v 0)) (blkOk_by (own := [("_law_x", 3)]) (N := ["_law_things", "_law_found", "_law_thing", "_law_x"]) (sc := defScope s_l_rising) (by decide +kernel)) (fun _ _ _ _ _ => pg_n (i := 3) sc_l_rising.nd) (fun _ _ _ _ _ => tests_one (dt_val (de_callP c_l_plain (hr.mono (by decide)) (da_cons (de_v 3) da_nil)))) (fun _ _ _ _ _ => (de_v 3))))))) (dg_name sc_l_rising.nd) (dss_one (ds_if (dt_w (dw_or (dt_cmp (op_eqA (units_of hr)) rop_eq (de_v 1) (de_frz (dn_lst da_nil))) (dw_or1 (dt_cmp (op_ltA (units_of hr)) rop_ltA (de_callP c_l_rank (hr.mono (by decide)) (da_cons (de_ixA (hu_of hr) (de_v 1) (de_neg de_int)) da_nil)) (de_callP c_l_rank (hr.mono (by decide)) (da_cons (de_v 2) da_nil)))))) (dss_one (ds_expr (de_append (de_v 1) (da_cons (de_v 2) da_nil)))) dss_nil)))
    (dss_one (ds_ret (de_v 1))))) : DSs _ W0 (defBody s_l_rising) g_l_rising)
abbrev s_l_double : Stmt := topS 26
theorem sc_l_double : FnScope ["_law_cell", "_law_was", "_law_now", "_law_k", "_law_way"] ["_law_cell"] (defScope s_l_double) := ⟨rfl, rfl, rfl, by decide +kernel, rfl, by decide +kernel, by decide +kernel⟩
noncomputable def c_l_double_1 : M Cell :=
    (lcM (bnd (consM (bin modM (bnd (consM (getL 0) (consM (ret (.int 7)) (ret []))) (callP 2 F_l_mix)) (ret (.int 6))) (ret [])) ran1I) 3 yesM (bnd (consM (bnd (consM (getL 0) (consM (bin addM (ret (.int 2)) (getL 3)) (ret []))) (callP 2 F_l_mix)) (ret [])) (callP 1 F_l_single)))
noncomputable def r_l_double_1 : M Out :=
    (seqM (asgM (bin modM (bnd (consM (getL 0) (consM (ret (.int 9)) (ret []))) (callP 2 F_l_mix)) (ret (.int 12))) (setL 4))
    (seqM (ifM (tst (bin eqM (getL 4) (ret (.int 0)))) (retM (frzM (lstN (consM (getL 1) (consM (bnd (consM (getL 2) (ret [])) tupleM) (ret [])))))) (ret .nx))
    (seqM (ifM (tst (bin eqM (getL 4) (ret (.int 1)))) (retM (tupM (consM (getL 1) (consM (getL 2) (ret []))))) (ret .nx))
    (seqM (ifM (tst (bin eqM (getL 4) (ret (.int 2)))) (retM (tupM (consM (getL 1) (consM (bnd (consM (getL 2) (ret [])) tupleM) (consM (getL 1) (ret [])))))) (ret .nx))
    (seqM (ifM (tst (bin eqM (getL 4) (ret (.int 3)))) (retM (tupM (consM (getL 1) (consM (bnd (consM (slM (getL 2) (ret none) (partM (ret (.int 1)))) (ret [])) tupleM) (ret []))))) (ret .nx))
    (seqM (ifM (tst (bin eqM (getL 4) (ret (.int 4)))) (retM (tupM (consM (getL 1) (consM (bnd (consM (bin addM (getL 2) (slM (getL 2) (ret none) (partM (ret (.int 1))))) (ret [])) tupleM) (ret []))))) (ret .nx))
    (seqM (ifM (tst (bin eqM (getL 4) (ret (.int 5)))) (retM (tupM (consM (getL 1) (consM (bnd (consM (bnd (consM (getL 0) (consM (ret (.int 10)) (ret []))) (callP 2 F_l_mix)) (ret [])) (callP 1 F_l_single)) (ret []))))) (ret .nx))
    (seqM (ifM (tst (bin ltAM (getL 4) (ret (.int 8)))) (retM (tupM (consM (ret (.int 5)) (consM (bnd (consM (getL 2) (ret [])) tupleM) (ret []))))) (ret .nx))
    (retM (tupM (consM (getL 1) (consM (bnd (consM (getL 2) (ret [])) tupleM) (ret [])))))))))))))
noncomputable def g_l_double : M Out :=
    (seqM (asgM (bnd (consM (bnd (consM (getL 0) (consM (ret (.int 1)) (ret []))) (callP 2 F_l_mix)) (ret [])) (callP 1 F_l_single)) (setL 1))
    (seqM (asgM (frzM c_l_double_1) (setL 2))
    (seqM (ifM (tst (bin gtM (bin modM (bnd (consM (getL 0) (consM (ret (.int 8)) (ret []))) (callP 2 F_l_mix)) (ret (.int 4))) (ret (.int 0)))) (asgM (bnd (consM (getL 2) (ret [])) (callP 1 F_l_rising)) (setL 2)) (ret .nx))
    r_l_double_1)))
noncomputable def F_l_double : Pf := runP 5 g_l_double
theorem ok_l_double {P : Program} {wd : World} {K : PySem.W.Frag} {mg : Str → Option Value} {base : Heap} (T : Txt K mg) (F : Top K mg "_law_double" s_l_double ["_law_cell"]) (c_l_single : FnP P wd K mg base "_law_single" 1 3 F_l_single) (c_l_mix : FnP P wd K mg base "_law_mix" 2 1 F_l_mix) (c_l_rising : FnP P wd K mg base "_law_rising" 1 4 F_l_rising) :
    FnP P wd K mg base "_law_double" 1 5 F_l_double :=
  F.fn sc_l_double (by decide) fun f cdv A outer s H E hr =>
    ((dss_cons (ds_set 1 (de_callP c_l_single (hr.mono (by decide)) (da_cons (de_callP c_l_mix (hr.mono (by decide)) (da_cons (de_v 0) (da_cons de_int da_nil))) da_nil)) sc_l_double.nd)
    (dss_cons (ds_lc false rfl sc_l_double.nd (di_range1 T.b_range (da_cons (de_mod (de_callP c_l_mix (hr.mono (by decide)) (da_cons (de_v 0) (da_cons de_int da_nil))) de_int) da_nil)) (blkOk_by (own := [("_law_k", 3)]) (N := ["_law_cell", "_law_was", "_law_now", "_law_k", "_law_way"]) (sc := defScope s_l_double) (by decide +kernel)) (fun _ _ _ _ _ => pg_n (i := 3) sc_l_double.nd) (fun _ _ _ _ _ => tests_nil) (fun _ _ _ _ _ => (de_callP c_l_single (hr.mono (by decide)) (da_cons (de_callP c_l_mix (hr.mono (by decide)) (da_cons (de_v 0) (da_cons (de_add de_int (de_v 3)) da_nil))) da_nil))) (sw_true rfl rfl rfl (by decide +kernel)))
    (dss_cons (ds_if (dt_cmp op_gt rop_gt (de_mod (de_callP c_l_mix (hr.mono (by decide)) (da_cons (de_v 0) (da_cons de_int da_nil))) de_int) de_int) (dss_one (ds_set 2 (de_callP c_l_rising (hr.mono (by decide)) (da_cons (de_v 2) da_nil)) sc_l_double.nd)) dss_nil)
    (dss_cons (ds_set 4 (de_mod (de_callP c_l_mix (hr.mono (by decide)) (da_cons (de_v 0) (da_cons de_int da_nil))) de_int) sc_l_double.nd)
    (dss_cons (ds_if (dt_cmp (op_eqA (units_of hr)) rop_eq (de_v 4) de_int) (dss_one (ds_ret (de_frz (dn_lst (da_cons (de_v 1) (da_cons (de_callT call_tupleC rc_tuple T.b_tuple (da_cons (de_v 2) da_nil) (by decide +kernel)) da_nil)))))) dss_nil)
    (dss_cons (ds_if (dt_cmp (op_eqA (units_of hr)) rop_eq (de_v 4) de_int) (dss_one (ds_ret (de_tup (da_cons (de_v 1) (da_cons (de_v 2) da_nil))))) dss_nil)
    (dss_cons (ds_if (dt_cmp (op_eqA (units_of hr)) rop_eq (de_v 4) de_int) (dss_one (ds_ret (de_tup (da_cons (de_v 1) (da_cons (de_callT call_tupleC rc_tuple T.b_tuple (da_cons (de_v 2) da_nil) (by decide +kernel)) (da_cons (de_v 1) da_nil)))))) dss_nil)
    (dss_cons (ds_if (dt_cmp (op_eqA (units_of hr)) rop_eq (de_v 4) de_int) (dss_one (ds_ret (de_tup (da_cons (de_v 1) (da_cons (de_callT call_tupleC rc_tuple T.b_tuple (da_cons (de_sl (de_v 2) do_none (do_some de_int)) da_nil) (by decide +kernel)) da_nil))))) dss_nil)
    (dss_cons (ds_if (dt_cmp (op_eqA (units_of hr)) rop_eq (de_v 4) de_int) (dss_one (ds_ret (de_tup (da_cons (de_v 1) (da_cons (de_callT call_tupleC rc_tuple T.b_tuple (da_cons (de_add (de_v 2) (de_sl (de_v 2) do_none (do_some de_int))) da_nil) (by decide +kernel)) da_nil))))) dss_nil)
    (dss_cons (ds_if (dt_cmp (op_eqA (units_of hr)) rop_eq (de_v 4) de_int) (dss_one (ds_ret (de_tup (da_cons (de_v 1) (da_cons (de_callP c_l_single (hr.mono (by decide)) (da_cons (de_callP c_l_mix (hr.mono (by decide)) (da_cons (de_v 0) (da_cons de_int da_nil))) da_nil)) da_nil))))) dss_nil)
    (dss_cons (ds_if (dt_cmp (op_ltA (units_of hr)) rop_ltA (de_v 4) de_int) (dss_one (ds_ret (de_tup (da_cons de_int (da_cons (de_callT call_tupleC rc_tuple T.b_tuple (da_cons (de_v 2) da_nil) (by decide +kernel)) da_nil))))) dss_nil)
    (dss_one (ds_ret (de_tup (da_cons (de_v 1) (da_cons (de_callT call_tupleC rc_tuple T.b_tuple (da_cons (de_v 2) da_nil) (by decide +kernel)) da_nil)))))))))))))))) : DSs _ W0 (defBody s_l_double) g_l_double)
abbrev s_l_clash : Stmt := topS 27
theorem sc_l_clash : FnScope ["_law_thing", "_law_now", "_law_x"] ["_law_thing"] (defScope s_l_clash) := ⟨rfl, rfl, rfl, by decide +kernel, rfl, by decide +kernel, by decide +kernel⟩
noncomputable def c_l_clash_1 : M Cell :=
    (lcM (bnd (getL 1) seqI) 2 (tst (bnd (getL 2) (isaM "bool"))) (getL 2))
noncomputable def r_l_clash_1 : M Out :=
    (seqM (asgM (bin ixAM (getL 0) (ret (.int 1))) (setL 1))
    (seqM (ifM (orT (notT (tst (bnd (consM (bin ixAM (getL 0) (ret (.int 0))) (ret [])) (callP 1 F_l_plain)))) (orT (notT (tst (bnd (getL 1) (isaM "tuple")))) (tst (bin ltAM (bnd (consM (getL 1) (ret [])) lenM) (ret (.int 2)))))) (retM (ret (.bl false))) (ret .nx))
    (retM (andV (bin eqAL (frzM (bnd (consM (getL 1) (ret [])) listN)) (bnd (consM (frzM (bnd (consM (getL 1) (ret [])) listN)) (ret [])) (callP 1 F_l_rising))) (bin eqAL (frzM c_l_clash_1) (frzM (lstN (ret []))))))))
noncomputable def g_l_clash : M Out :=
    (seqM (ifM (orT (notT (tst (bnd (getL 0) (isaM "tuple")))) (tst (bin neM (bnd (consM (getL 0) (ret [])) lenM) (ret (.int 2))))) (retM (ret (.bl false))) (ret .nx))
    r_l_clash_1)
noncomputable def F_l_clash : Pf := runP 3 g_l_clash
theorem ok_l_clash {P : Program} {wd : World} {K : PySem.W.Frag} {mg : Str → Option Value} {base : Heap} (T : Txt K mg) (F : Top K mg "_law_clash" s_l_clash ["_law_thing"]) (c_l_plain : FnP P wd K mg base "_law_plain" 1 2 F_l_plain) (c_l_rising : FnP P wd K mg base "_law_rising" 1 4 F_l_rising) :
    FnP P wd K mg base "_law_clash" 1 5 F_l_clash :=
  F.fn sc_l_clash (by decide) fun f cdv A outer s H E hr =>
    ((dss_cons (ds_if (dt_w (dw_or (dt_not (dt_val (de_isa "tuple" T.b_isinstance T.b_tuple (de_v 0) (by decide +kernel)))) (dw_or1 (dt_cmp (op_neA (units_of hr)) rop_ne (de_len T.b_len (da_cons (de_v 0) da_nil)) de_int)))) (dss_one (ds_ret de_bl)) dss_nil)
    (dss_cons (ds_set 1 (de_ixA (hu_of hr) (de_v 0) de_int) sc_l_clash.nd)
    (dss_cons (ds_if (dt_w (dw_or (dt_not (dt_val (de_callP c_l_plain (hr.mono (by decide)) (da_cons (de_ixA (hu_of hr) (de_v 0) de_int) da_nil)))) (dw_or (dt_not (dt_val (de_isa "tuple" T.b_isinstance T.b_tuple (de_v 1) (by decide +kernel)))) (dw_or1 (dt_cmp (op_ltA (units_of hr)) rop_ltA (de_len T.b_len (da_cons (de_v 1) da_nil)) de_int))))) (dss_one (ds_ret de_bl)) dss_nil)
    (dss_one (ds_ret (de_and (de_cmp (op_eqAL (units_of hr)) rop_eqAL (de_frz (dn_callT call_list_of rc_list T.b_list (da_cons (de_v 1) da_nil) (by decide +kernel))) (de_callP c_l_rising (hr.mono (by decide)) (da_cons (de_frz (dn_callT call_list_of rc_list T.b_list (da_cons (de_v 1) da_nil) (by decide +kernel))) da_nil))) (de_one (de_cmp (op_eqAL (units_of hr)) rop_eqAL (de_frz (dn_lc rfl sc_l_clash.nd (di_seq (de_v 1)) (blkOk_by (own := [("_law_x", 2)]) (N := ["_law_thing", "_law_now", "_law_x"]) (sc := defScope s_l_clash) (by decide +kernel)) (fun _ _ _ _ _ => pg_n (i := 2) sc_l_clash.nd) (fun _ _ _ _ _ => tests_one (dt_val (de_isa "bool" T.b_isinstance T.b_bool (de_v 2) (by decide +kernel)))) (fun _ _ _ _ _ => (de_v 2)))) (de_frz (dn_lst da_nil)))))))))) : DSs _ W0 (defBody s_l_clash) g_l_clash)
abbrev s_l_word : Stmt := topS 28
theorem sc_l_word : FnScope ["_law_thing", "_law_x"] ["_law_thing"] (defScope s_l_word) := ⟨rfl, rfl, rfl, by decide +kernel, rfl, by decide +kernel, by decide +kernel⟩
noncomputable def c_l_word_1 : M Cell :=
    (lcM (bnd (getL 0) seqI) 1 (tst (bin ninAM (getL 1) (ret (.str "abcdefghijklmnopqrstuvwxyz")))) (getL 1))
noncomputable def g_l_word : M Out :=
    (seqM (ifM (orT (notT (tst (bnd (getL 0) (isaM "str")))) (orT (tst (bin eqM (bnd (consM (getL 0) (ret [])) lenM) (ret (.int 0)))) (tst (bin gtM (bnd (consM (getL 0) (ret [])) lenM) (ret (.int 12)))))) (retM (ret (.bl false))) (ret .nx))
    (retM (bin eqAL (frzM c_l_word_1) (frzM (lstN (ret []))))))
noncomputable def F_l_word : Pf := runP 2 g_l_word
theorem ok_l_word {P : Program} {wd : World} {K : PySem.W.Frag} {mg : Str → Option Value} {base : Heap} (T : Txt K mg) (F : Top K mg "_law_word" s_l_word ["_law_thing"])  :
    FnP P wd K mg base "_law_word" 1 1 F_l_word :=
  F.fn sc_l_word (by decide) fun f cdv A outer s H E hr =>
    ((dss_cons (ds_if (dt_w (dw_or (dt_not (dt_val (de_isa "str" T.b_isinstance T.b_str (de_v 0) (by decide +kernel)))) (dw_or (dt_cmp (op_eqA (units_of hr)) rop_eq (de_len T.b_len (da_cons (de_v 0) da_nil)) de_int) (dw_or1 (dt_cmp op_gt rop_gt (de_len T.b_len (da_cons (de_v 0) da_nil)) de_int))))) (dss_one (ds_ret de_bl)) dss_nil)
    (dss_one (ds_ret (de_cmp (op_eqAL (units_of hr)) rop_eqAL (de_frz (dn_lc rfl sc_l_word.nd (di_seq (de_v 0)) (blkOk_by (own := [("_law_x", 1)]) (N := ["_law_thing", "_law_x"]) (sc := defScope s_l_word) (by decide +kernel)) (fun _ _ _ _ _ => pg_n (i := 1) sc_l_word.nd) (fun _ _ _ _ _ => tests_one (dt_ninA (units_of hr) (de_v 1) de_str)) (fun _ _ _ _ _ => (de_v 1)))) (de_frz (dn_lst da_nil)))))) : DSs _ W0 (defBody s_l_word) g_l_word)
abbrev s_l_asked : Stmt := topS 29
theorem sc_l_asked : FnScope ["_law_thing", "_law_plain_here", "_law_clash_here", "_law_due", "_law_found", "_law_one", "_law_other_here"] ["_law_thing"] (defScope s_l_asked) := ⟨rfl, rfl, rfl, by decide +kernel, rfl, by decide +kernel, by decide +kernel⟩
noncomputable def b_l_asked_1 : M Out :=
    (ifM (orT (notT (tst (bnd (getL 5) (isaM "bool")))) (tst (bin neM (getL 5) (getL 6)))) (retM (ret (.bl false))) (ret .nx))
noncomputable def g_l_asked : M Out :=
    (seqM (asgM (bnd (consM (getL 0) (ret [])) (callP 1 F_l_plain)) (setL 1))
    (seqM (asgM (bnd (consM (getL 0) (ret [])) (callP 1 F_l_clash)) (setL 2))
    (seqM (asgM (ownM (lstN (consM (bnd (consM (getL 0) (ret [])) (callP 1 F_l_whole)) (consM (andV (getL 1) (andV (bin isnotM (getL 0) (ret .non)) (bin neM (getL 0) (ret (.str ""))))) (consM (getL 1) (consM (getL 2) (consM (orV (getL 1) (getL 2)) (ret [])))))))) (setL 3))
    (seqM (dropM (methM "list" (getL 3) (consM (bnd (consM (getL 0) (ret [])) (callP 1 F_l_word)) (ret [])) appM))
    (seqM (asgM (frzM (lstN (consM (bnd (consM (getL 0) (ret [])) (callP 1 F_is_whole)) (consM (bnd (consM (getL 0) (ret [])) (callP 1 F_is_key)) (consM (bnd (consM (getL 0) (ret [])) (callP 1 F_is_plain)) (consM (bnd (consM (getL 0) (ret [])) (callP 1 F_is_clash)) (consM (bnd (consM (getL 0) (ret [])) (callP 1 F_is_value)) (consM (bnd (consM (getL 0) (ret [])) (callP 1 F_is_word)) (ret []))))))))) (setL 4))
    (seqM (forM (bnd (consM (getL 4) (consM (getL 3) (ret []))) zipA) (unp2 5 6) b_l_asked_1)
    (retM (ret (.bl true)))))))))
noncomputable def F_l_asked : Pf := runP 7 g_l_asked
theorem ok_l_asked {P : Program} {wd : World} {K : PySem.W.Frag} {mg : Str → Option Value} {base : Heap} (T : Txt K mg) (F : Top K mg "_law_asked" s_l_asked ["_law_thing"]) (c_l_plain : FnP P wd K mg base "_law_plain" 1 2 F_l_plain) (c_l_clash : FnP P wd K mg base "_law_clash" 1 5 F_l_clash) (c_l_whole : FnP P wd K mg base "_law_whole" 1 1 F_l_whole) (c_l_word : FnP P wd K mg base "_law_word" 1 1 F_l_word) (c_is_word : FnP P wd K mg base "is_word" 1 1 F_is_word) (c_is_value : FnP P wd K mg base "is_value" 1 5 F_is_value) (c_is_clash : FnP P wd K mg base "is_clash" 1 4 F_is_clash) (c_is_plain : FnP P wd K mg base "is_plain" 1 3 F_is_plain) (c_is_key : FnP P wd K mg base "is_key" 1 3 F_is_key) (c_is_whole : FnP P wd K mg base "is_whole" 1 1 F_is_whole) :
    FnP P wd K mg base "_law_asked" 1 6 F_l_asked :=
  F.fn sc_l_asked (by decide) fun f cdv A outer s H E hr =>
    ((dss_cons (ds_set 1 (de_callP c_l_plain (hr.mono (by decide)) (da_cons (de_v 0) da_nil)) sc_l_asked.nd)
    (dss_cons (ds_set 2 (de_callP c_l_clash (hr.mono (by decide)) (da_cons (de_v 0) da_nil)) sc_l_asked.nd)
    (dss_cons (ds_set 3 (de_own (dn_lst (da_cons (de_callP c_l_whole (hr.mono (by decide)) (da_cons (de_v 0) da_nil)) (da_cons (de_and (de_v 1) (de_and (de_cmp op_notN rop_isnot (de_v 0) de_non) (de_one (de_cmp (op_neA (units_of hr)) rop_ne (de_v 0) de_str)))) (da_cons (de_v 1) (da_cons (de_v 2) (da_cons (de_or (de_v 1) (de_one (de_v 2))) da_nil))))))) sc_l_asked.nd)
    (dss_cons (ds_expr (de_append (de_v 3) (da_cons (de_callP c_l_word (hr.mono (by decide)) (da_cons (de_v 0) da_nil)) da_nil)))
    (dss_cons (ds_set 4 (de_frz (dn_lst (da_cons (de_callP c_is_whole (hr.mono (by decide)) (da_cons (de_v 0) da_nil)) (da_cons (de_callP c_is_key (hr.mono (by decide)) (da_cons (de_v 0) da_nil)) (da_cons (de_callP c_is_plain (hr.mono (by decide)) (da_cons (de_v 0) da_nil)) (da_cons (de_callP c_is_clash (hr.mono (by decide)) (da_cons (de_v 0) da_nil)) (da_cons (de_callP c_is_value (hr.mono (by decide)) (da_cons (de_v 0) da_nil)) (da_cons (de_callP c_is_word (hr.mono (by decide)) (da_cons (de_v 0) da_nil)) da_nil)))))))) sc_l_asked.nd)
    (dss_cons (ds_for PassesOwn.never rfl (di_zipA T.b_zip (da_cons (de_v 4) (da_cons (de_v 3) da_nil))) (dg_two rfl sc_l_asked.nd) (dss_one (ds_if (dt_w (dw_or (dt_not (dt_val (de_isa "bool" T.b_isinstance T.b_bool (de_v 5) (by decide +kernel)))) (dw_or1 (dt_cmp (op_neA (units_of hr)) rop_ne (de_v 5) (de_v 6))))) (dss_one (ds_ret de_bl)) dss_nil)))
    (dss_one (ds_ret de_bl)))))))) : DSs _ W0 (defBody s_l_asked) g_l_asked)
abbrev s_law : Stmt := topS 30
theorem sc_law : FnScope ["_law_script", "_law_things", "_law_k", "_law_cell", "_law_thing"] ["_law_script"] (defScope s_law) := ⟨rfl, rfl, rfl, by decide +kernel, rfl, by decide +kernel, by decide +kernel⟩
noncomputable def c_law_1 : M Cell :=
    (lcM (bnd (consM (ret (.int 12)) (ret [])) ran1I) 2 yesM (bnd (consM (getL 2) (ret [])) (callP 1 F_l_other)))
noncomputable def c_law_2 : M Cell :=
    (lcM (bnd (consM (bin modM (bin divM (getL 3) (ret (.int 1000))) (ret (.int 61))) (ret [])) ran1I) 2 yesM (bin addM (bin modM (getL 3) (ret (.int 1000))) (getL 2)))
noncomputable def b_law_1 : M Out :=
    (dropM (methM "list" (getL 1) (consM (tupM (consM (ret .non) (consM (bnd (consM (frzM c_law_2) (ret [])) tupleM) (ret [])))) (ret [])) appM))
noncomputable def b_law_2 : M Out :=
    (ifM (tst (bin eqM (bin modM (getL 3) (ret (.int 3))) (ret (.int 0)))) (dropM (methM "list" (getL 1) (consM (bnd (consM (bin divM (getL 3) (ret (.int 3))) (ret [])) (callP 1 F_l_double)) (ret [])) appM)) (dropM (methM "list" (getL 1) (consM (bnd (consM (bin divM (getL 3) (ret (.int 3))) (ret [])) (callP 1 F_l_single)) (ret [])) appM)))
noncomputable def b_law_3 : M Out :=
    (ifM (notT (tst (bnd (consM (getL 4) (ret [])) (callP 1 F_l_asked)))) (retM (ret (.bl false))) (ret .nx))
noncomputable def r_law_1 : M Out :=
    (seqM (forM (bnd (getL 1) seqI) (setL 4) b_law_3)
    (retM (ret (.bl true))))
noncomputable def r_law_2 : M Out :=
    (seqM (forM (bnd (slM (getL 0) (ret none) (partM (ret (.int 40)))) seqI) (setL 3) b_law_2)
    r_law_1)
noncomputable def g_law : M Out :=
    (seqM (asgM (ownM c_law_1) (setL 1))
    (seqM (forM (bnd (slM (getL 0) (ret none) (partM (ret (.int 3)))) seqI) (setL 3) b_law_1)
    r_law_2))
noncomputable def F_law : Pf := runP 5 g_law
theorem ok_law {P : Program} {wd : World} {K : PySem.W.Frag} {mg : Str → Option Value} (T : Txt K mg) (F : Top K mg "law" s_law ["_law_script"])
    (C : ∀ base : Heap, K.In base → base.Ns mainGlobals mg → FnP P wd K mg base "_law_other" 1 1 F_l_other ∧ FnP P wd K mg base "_law_double" 1 5 F_l_double ∧ FnP P wd K mg base "_law_single" 1 3 F_l_single ∧ FnP P wd K mg base "_law_asked" 1 6 F_l_asked ∧ True) :
    ∃ (fa : Addr) (fd : FuncData), mg "law" = some (.ref fa) ∧ (∀ (s : Shared) (u : Value), BindsTo s fd ⟨[u], []⟩ [("_law_script", u)]) ∧ ∀ base : Heap, K.In base → base.Ns mainGlobals mg → FnOk P wd K mg base CX0 7 fa fd ["_law_script"] (SpP K 1 F_law) :=
  F.law sc_law (by decide) fun base X0 G0 f cdv A outer s H E hr => let ⟨c_l_other, c_l_double, c_l_single, c_l_asked, _⟩ := C base X0 G0
    ((dss_cons (ds_lc true rfl sc_law.nd (di_range1 T.b_range (da_cons de_int da_nil)) (blkOk_by (own := [("_law_k", 2)]) (N := ["_law_script", "_law_things", "_law_k", "_law_cell", "_law_thing"]) (sc := defScope s_law) (by decide +kernel)) (fun _ _ _ _ _ => pg_n (i := 2) sc_law.nd) (fun _ _ _ _ _ => tests_nil) (fun _ _ _ _ _ => (de_callP c_l_other (hr.mono (by decide)) (da_cons (de_v 2) da_nil))) (sw_true rfl rfl rfl (by decide +kernel)))
    (dss_cons (ds_for PassesOwn.never rfl (di_seq (de_sl (de_v 0) do_none (do_some de_int))) (dg_name sc_law.nd) (dss_one (ds_expr (de_append (de_v 1) (da_cons (de_tup (da_cons de_non (da_cons (de_callT call_tupleC rc_tuple T.b_tuple (da_cons (de_frz (dn_lc rfl sc_law.nd (di_range1 T.b_range (da_cons (de_mod (de_div (de_v 3) de_int) de_int) da_nil)) (blkOk_by (own := [("_law_k", 2)]) (N := ["_law_script", "_law_things", "_law_k", "_law_cell", "_law_thing"]) (sc := defScope s_law) (by decide +kernel)) (fun _ _ _ _ _ => pg_n (i := 2) sc_law.nd) (fun _ _ _ _ _ => tests_nil) (fun _ _ _ _ _ => (de_add (de_mod (de_v 3) de_int) (de_v 2))))) da_nil) (by decide +kernel)) da_nil))) da_nil)))))
    (dss_cons (ds_for PassesOwn.never rfl (di_seq (de_sl (de_v 0) do_none (do_some de_int))) (dg_name sc_law.nd) (dss_one (ds_if (dt_cmp (op_eqA (units_of hr)) rop_eq (de_mod (de_v 3) de_int) de_int) (dss_one (ds_expr (de_append (de_v 1) (da_cons (de_callP c_l_double (hr.mono (by decide)) (da_cons (de_div (de_v 3) de_int) da_nil)) da_nil)))) (dss_one (ds_expr (de_append (de_v 1) (da_cons (de_callP c_l_single (hr.mono (by decide)) (da_cons (de_div (de_v 3) de_int) da_nil)) da_nil)))))))
    (dss_cons (ds_for PassesOwn.never rfl (di_seq (de_v 1)) (dg_name sc_law.nd) (dss_one (ds_if (dt_not (dt_val (de_callP c_l_asked (hr.mono (by decide)) (da_cons (de_v 4) da_nil)))) (dss_one (ds_ret de_bl)) dss_nil)))
    (dss_one (ds_ret de_bl)))))) : DSs _ W0 (defBody s_law) g_law)
end Wktwigtable_k01_kinds

namespace My
open PySem PySem.Spec PyProof.Rows L2 Fx Wktwigtable_k01_kinds
local macro_rules | `(tactic| walk_at "fy") => `(tactic| simp (disch := first | rfl | decide | omega | assumption | (simp only [List.length_append, List.length_cons, List.length_nil, List.length_take, List.length_drop, List.length_map]; omega)) only [x_unp2, x_unp3, x_unpP, x_lputS, x_getE1, x_getE2, x_popE1, x_popE2, x_updE, x_onD, x_npop, x_revT, x_revL, keyD_int, keyD_str, x_alt, x_altO, x_altB, x_altI, x_at0, x_at1, x_at2, x_at3, x_st0, x_st1, x_st2, x_fld, x_fldS, x_sto, x_met, x_metK, x_met0, x_metK0, x_callN, x_callNR, x_callS, x_callSR, x_make, x_mkR, x_ixC, x_ixCd, x_ixCl, x_ixAL, x_ixAT, x_ixAS, x_ixD, x_dstR, x_inC, x_ninC, x_inS, x_ninS, x_inCd, x_inCl, x_inL, x_ninL, x_dputS, x_dput, x_dputT, x_dputR, x_pair, x_keyI, x_keyS, x_dsp, x_merge1, x_isTyC, x_intB, x_intI, x_neg, x_maxl, x_minl, Int.reduceEq, Int.reduceMod, Int.reduceAdd, Int.reduceSub, Int.reduceMul, Int.reduceLT, Int.reduceLE, x_ran1, x_ran2, eq_self, x_lstO, x_isTyR, x_app, x_appR, x_meth0, x_clrC, x_clrR, x_seqC, x_seqCR, x_lenC, x_lenR, x_lenRd, x_isaC, x_isaR, x_isaRd, x_sortSet, x_lk0, x_lk1, x_lk2, x_lk3, x_lk4, x_eqIs, x_neIs, List.append_assoc, List.length_append, Nat.reduceLeDiff, x_min2, x_max2, beq_true, beq_false, x_lisL, x_lisT, litD, Option.isSome_some, Option.isSome_none, x_bnd, x_ok, x_ret, x_fail, x_ite, x_iteM, x_bad, x_get, x_look, x_set, x_seq, x_nx, x_rt, x_brk, x_cnt, x_bad2, x_ite2, x_asg, x_retM, x_drop, x_if, x_itM, x_asB, x_bin, x_tst, x_and, x_or, x_not, x_andT, x_orT, x_notT, x_cons, x_call, x_callR, x_isa, x_sub, x_add, x_mul, x_mod, x_div, x_pow, x_lt, x_le, x_gt, x_ge, x_eqI, x_neI, x_true, x_false, x_aug, x_augF, x_forM, x_frz, x_lst, x_tup, x_lenL, x_ixL, x_ixT, x_opt, x_slL, x_slM, x_slVL, x_slVTx, x_part, x_lenTx, x_addTx, cutS_take, cutS_drop, cutS_drop1, x_seqL, x_seqT,
  initS, List.map_cons, List.map_nil, List.length_cons, List.length_nil, List.cons_append, List.nil_append, List.append_nil, tyName, x_join, x_slS, x_eqS, x_neS, x_eqB, x_neB, tx_app, tx_len, x_is1, x_is2, x_is3, x_is4, x_is5, x_isn1, x_isn2, x_isn3, x_isn4, x_isn5, x_meth, isTy_last, x_own, cd_nil, isa_int_NoneType, isa_int_bool, isa_int_int, isa_int_str, isa_int_tuple, isa_int_list, isa_int_dict, isa_bool_NoneType, isa_bool_bool, isa_bool_int, isa_bool_str, isa_bool_tuple, isa_bool_list, isa_bool_dict, isa_str_NoneType, isa_str_bool, isa_str_int, isa_str_str, isa_str_tuple, isa_str_list, isa_str_dict, isa_tuple_NoneType, isa_tuple_bool, isa_tuple_int, isa_tuple_str, isa_tuple_tuple, isa_tuple_list, isa_tuple_dict, isa_list_NoneType, isa_list_bool, isa_list_int, isa_list_str, isa_list_tuple, isa_list_list, isa_list_dict, isa_dict_NoneType, isa_dict_bool, isa_dict_int, isa_dict_str, isa_dict_tuple, isa_dict_list, isa_dict_dict, decide_eq_true_eq, decide_true, decide_false, Nat.reduceAdd, Nat.reduceSub, Nat.zero_add, List.replicate, List.replicate_succ, List.replicate_zero, List.getElem?_cons_zero, List.getElem?_cons_succ, List.set_cons_zero, List.set_cons_succ, Bool.not_true, Bool.not_false, if_true, if_false, Bool.false_eq_true, ite_true, ite_false, beq_self_eq_true, Bool.or_true, Bool.true_or, Bool.or_false, Bool.false_or, Bool.and_true, Bool.and_false, Bool.true_and, Bool.false_and, Int.reduceToNat])
local macro_rules | `(tactic| walk_at "fyh") => `(tactic| simp (disch := first | rfl | decide | omega | assumption | (simp only [List.length_append, List.length_cons, List.length_nil, List.length_take, List.length_drop, List.length_map]; omega)) only [*, x_unp2, x_unp3, x_unpP, x_lputS, x_getE1, x_getE2, x_popE1, x_popE2, x_updE, x_onD, x_npop, x_revT, x_revL, keyD_int, keyD_str, x_alt, x_altO, x_altB, x_altI, x_at0, x_at1, x_at2, x_at3, x_st0, x_st1, x_st2, x_fld, x_fldS, x_sto, x_met, x_metK, x_met0, x_metK0, x_callN, x_callNR, x_callS, x_callSR, x_make, x_mkR, x_ixC, x_ixCd, x_ixCl, x_ixAL, x_ixAT, x_ixAS, x_ixD, x_dstR, x_inC, x_ninC, x_inS, x_ninS, x_inCd, x_inCl, x_inL, x_ninL, x_dputS, x_dput, x_dputT, x_dputR, x_pair, x_keyI, x_keyS, x_dsp, x_merge1, x_isTyC, x_intB, x_intI, x_neg, x_maxl, x_minl, Int.reduceEq, Int.reduceMod, Int.reduceAdd, Int.reduceSub, Int.reduceMul, Int.reduceLT, Int.reduceLE, x_ran1, x_ran2, eq_self, x_lstO, x_isTyR, x_app, x_appR, x_meth0, x_clrC, x_clrR, x_seqC, x_seqCR, x_lenC, x_lenR, x_lenRd, x_isaC, x_isaR, x_isaRd, x_sortSet, x_lk0, x_lk1, x_lk2, x_lk3, x_lk4, x_eqIs, x_neIs, List.append_assoc, List.length_append, Nat.reduceLeDiff, x_min2, x_max2, beq_true, beq_false, x_lisL, x_lisT, litD, Option.isSome_some, Option.isSome_none, x_bnd, x_ok, x_ret, x_fail, x_ite, x_iteM, x_bad, x_get, x_look, x_set, x_seq, x_nx, x_rt, x_brk, x_cnt, x_bad2, x_ite2, x_asg, x_retM, x_drop, x_if, x_itM, x_asB, x_bin, x_tst, x_and, x_or, x_not, x_andT, x_orT, x_notT, x_cons, x_call, x_callR, x_isa, x_sub, x_add, x_mul, x_mod, x_div, x_pow, x_lt, x_le, x_gt, x_ge, x_eqI, x_neI, x_true, x_false, x_aug, x_augF, x_forM, x_frz, x_lst, x_tup, x_lenL, x_ixL, x_ixT, x_opt, x_slL, x_slM, x_slVL, x_slVTx, x_part, x_lenTx, x_addTx, cutS_take, cutS_drop, cutS_drop1, x_seqL, x_seqT,
  initS, List.map_cons, List.map_nil, List.length_cons, List.length_nil, List.cons_append, List.nil_append, List.append_nil, tyName, x_join, x_slS, x_eqS, x_neS, x_eqB, x_neB, tx_app, tx_len, x_is1, x_is2, x_is3, x_is4, x_is5, x_isn1, x_isn2, x_isn3, x_isn4, x_isn5, x_meth, isTy_last, x_own, cd_nil, isa_int_NoneType, isa_int_bool, isa_int_int, isa_int_str, isa_int_tuple, isa_int_list, isa_int_dict, isa_bool_NoneType, isa_bool_bool, isa_bool_int, isa_bool_str, isa_bool_tuple, isa_bool_list, isa_bool_dict, isa_str_NoneType, isa_str_bool, isa_str_int, isa_str_str, isa_str_tuple, isa_str_list, isa_str_dict, isa_tuple_NoneType, isa_tuple_bool, isa_tuple_int, isa_tuple_str, isa_tuple_tuple, isa_tuple_list, isa_tuple_dict, isa_list_NoneType, isa_list_bool, isa_list_int, isa_list_str, isa_list_tuple, isa_list_list, isa_list_dict, isa_dict_NoneType, isa_dict_bool, isa_dict_int, isa_dict_str, isa_dict_tuple, isa_dict_list, isa_dict_dict, decide_eq_true_eq, decide_true, decide_false, Nat.reduceAdd, Nat.reduceSub, Nat.zero_add, List.replicate, List.replicate_succ, List.replicate_zero, List.getElem?_cons_zero, List.getElem?_cons_succ, List.set_cons_zero, List.set_cons_succ, Bool.not_true, Bool.not_false, if_true, if_false, Bool.false_eq_true, ite_true, ite_false, beq_self_eq_true, Bool.or_true, Bool.true_or, Bool.or_false, Bool.false_or, Bool.and_true, Bool.and_false, Bool.true_and, Bool.false_and, Int.reduceToNat])
/-! things, and what is plain -/
def gd (c : Nat) : Prop := 32 ≤ c ∧ c ≤ 126 ∧ c ≠ 37
instance (c : Nat) : Decidable (gd c) := by unfold gd; infer_instance
/-- a sign of a text that is drawn -/
def sk (c : Nat) : Prop := gd c ∨ c = 9 ∨ c = 10
inductive Tg : D → Prop
  | non : Tg .non
  | bl (b : Bool) : Tg (.bl b)
  | int (i : Int) : Tg (.int i)
  | tx {cs : List Nat} (h : ∀ c ∈ cs, sk c) (hl : cs.length ≤ 100) : Tg (.str (tx cs))
  | emp : Tg .emp
  | lst {ds : List D} (h : ∀ d ∈ ds, Tg d) (hl : ds.length ≤ 1000) : Tg (.lst ds)
  | tup {ds : List D} (h : ∀ d ∈ ds, Tg d) (hl : ds.length ≤ 1000) : Tg (.tup ds)
def whl : D → Bool
  | .int _ => true
  | _ => false
def num1 : D → Bool
  | .int i => decide (-(10 ^ 30) < i ∧ i < 10 ^ 30)
  | _ => false
def txt1 (cs : List Nat) : Bool := cs.all fun c => decide (gd c)
theorem sk.lt {c : Nat} (h : sk c) : c < 128 := by
  rcases h with h | h | h
  · have := h.2.1; omega
  · omega
  · omega
theorem t_isw {d : D} (h : Tg d) (vh : List Cell) : F_is_whole [d] vh = some (.bl (whl d)) := by
  refine runP_of ?_ rfl
  unfold g_is_whole
  cases h <;> (walk_at "fyh"; exact ⟨_, rfl⟩)
theorem t_lw {d : D} (h : Tg d) (vh : List Cell) : F_l_whole [d] vh = some (.bl (whl d)) := by
  refine runP_of ?_ rfl
  unfold g_l_whole
  cases h <;> (walk_at "fyh"; exact ⟨_, rfl⟩)
theorem t_isn {d : D} (h : Tg d) (vh : List Cell) : F_is_number [d] vh = some (.bl (num1 d)) := by
  have w := t_isw h vh
  refine runP_of ?_ rfl
  unfold g_is_number
  cases h with
  | int i =>
    replace w : F_is_whole [.int i] vh = some (.bl true) := w
    by_cases a : -1000000000000000000000000000000 < i
    · by_cases b : i < 1000000000000000000000000000000
      · have e : num1 (.int i) = true := decide_eq_true ⟨by omega, by omega⟩
        rw [e]
        walk_at "fyh"
        exact ⟨_, rfl⟩
      · have e : num1 (.int i) = false := decide_eq_false (by omega)
        rw [e]
        walk_at "fyh"
        exact ⟨_, rfl⟩
    · have e : num1 (.int i) = false := decide_eq_false (by omega)
      rw [e]
      walk_at "fyh"
      exact ⟨_, rfl⟩
  | _ =>
    dsimp only [whl, num1] at *
    walk_at "fyh"
    exact ⟨_, rfl⟩
/-! texts -/
theorem signs_tx (cs : List Nat) : Fx.signs (tx cs) = cs.map fun c => D.str (tx [c]) := by unfold Fx.signs; rw [tx_tl]; rfl
theorem x_ord {c : Nat} {s : S} : ordM [.str (tx [c])] s = .ok (.int c) s := nr rfl
theorem x_seqTx {cs : List Nat} {s : S} : seqI (.str (tx cs)) s = .ok ⟨cs.map fun c => D.str (tx [c]), fun s' => itemsOf s' (.str (tx cs)) = some (cs.map fun c => D.str (tx [c]))⟩ s := by rw [x_seqS, signs_tx]
/-! the program's own two -/
theorem lt1 (a b : Nat) (s : Fx.S) : ltAM (.str (tx [a])) (.str (tx [b])) s = .ok (.bl (decide (a < b))) s := by
  rw [x_ltS, tx_tl, tx_tl]
  congr 3
  simp [List.cons_lt_cons_iff]
theorem loop0 {ok : Fx.S → Prop} {t : D → M Out} {b : M Out} {s : Fx.S} (h : ok s) : loopM ok t b [] s = .ok .nx s := by
  rw [loopM]
  exact if_pos h
theorem loopS {ok : Fx.S → Prop} {t : D → M Out} {b : M Out} {d : D} {items : List D} {s s1 s2 : Fx.S} (h0 : ok s) (h1 : t d s = .ok .nx s1) (h2 : b s1 = .ok .nx s2) : loopM ok t b (d :: items) s = loopM ok t b items s2 := by
  rw [loopM]
  refine (if_pos h0).trans ?_
  rw [h1]
  dsimp only
  rw [h2]
theorem loopR {ok : Fx.S → Prop} {t : D → M Out} {b : M Out} {d v : D} {items : List D} {s s1 s2 : Fx.S} (h0 : ok s) (h1 : t d s = .ok .nx s1) (h2 : b s1 = .ok (.rt v) s2) : loopM ok t b (d :: items) s = .ok (.rt v) s2 := by
  rw [loopM]
  refine (if_pos h0).trans ?_
  rw [h1]
  dsimp only
  rw [h2]

theorem turnT {c : Nat} (h : sk c) (x0 : Option D) (vh : List Cell) : b_is_text_1 ⟨[x0, some (.str (tx [c]))], vh⟩ = .ok (if gd c then .nx else .rt (.bl false)) ⟨[x0, some (.str (tx [c]))], vh⟩ := by
  by_cases g : gd c
  · rw [if_pos g]
    obtain ⟨g1, g2, g3⟩ := g
    have l1 : ∀ s, ltAM (.str (tx [c])) (.str (tx (cd " "))) s = .ok (.bl false) s := fun s => by
      have := lt1 c 32 s
      rw [decide_eq_false (by omega)] at this
      exact this
    have l2 : ∀ s, ltAM (.str (tx (cd "~"))) (.str (tx [c])) s = .ok (.bl false) s := fun s => by
      have := lt1 126 c s
      rw [decide_eq_false (by omega)] at this
      exact this
    have od : ∀ s, ordM [.str (tx [c])] s = .ok (.int (c : Nat)) s := fun s => rfl
    have ne : ∀ s, eqM (.int (c : Nat)) (.int 37) s = .ok (.bl false) s := fun s => by
      rw [x_eqI, decide_eq_false (by omega)]
    clear h g1 g2 g3
    generalize (c : Int) = CI at *
    generalize (tx [c]) = C at *
    unfold b_is_text_1
    walk_at "fyh"
  · rw [if_neg g]
    have l1 : ∀ s, ltAM (.str (tx [c])) (.str (tx (cd " "))) s = .ok (.bl true) s := fun s => by
      have := lt1 c 32 s
      rw [decide_eq_true (by rcases h with h | h | h; exact absurd h g; omega; omega)] at this
      exact this
    clear h g
    generalize (tx [c]) = C at *
    unfold b_is_text_1
    walk_at "fyh"
theorem loopT {ok : Fx.S → Prop} (hok : ∀ s, ok s) (x0 : Option D) (vh : List Cell) : ∀ (cs : List Nat) (x1 : Option D), (∀ c ∈ cs, sk c) →
    ∃ y1, loopM ok (setL 1) b_is_text_1 (cs.map fun c => D.str (tx [c])) ⟨[x0, x1], vh⟩ = .ok (if txt1 cs = true then .nx else .rt (.bl false)) ⟨[x0, y1], vh⟩
  | [], x1, _ => ⟨x1, loop0 (hok _)⟩
  | c :: cs, x1, h => by
    have t := turnT (h c List.mem_cons_self) x0 vh
    by_cases g : gd c
    · rw [if_pos g] at t
      obtain ⟨y1, r⟩ := loopT hok x0 vh cs (some (.str (tx [c]))) fun e he => h e (List.mem_cons_of_mem _ he)
      refine ⟨y1, ?_⟩
      rw [List.map_cons, loopS (hok _) rfl t, r]
      have : txt1 (c :: cs) = txt1 cs := by unfold txt1; rw [List.all_cons, decide_eq_true g, Bool.true_and]
      rw [this]
    · rw [if_neg g] at t
      refine ⟨some (.str (tx [c])), ?_⟩
      rw [List.map_cons, loopR (hok _) rfl t]
      have : txt1 (c :: cs) = false := by unfold txt1; rw [List.all_cons, decide_eq_false g, Bool.false_and]
      rw [this]
      rfl
theorem t_istx {cs : List Nat} (h : ∀ c ∈ cs, sk c) (vh : List Cell) : F_is_text [.str (tx cs)] vh = some (.bl (txt1 cs)) := by
  obtain ⟨y1, lp⟩ := loopT (ok := fun s' => itemsOf s' (.str (tx cs)) = some (cs.map fun c => D.str (tx [c]))) (fun s => by show some (Fx.signs (tx cs)) = _; rw [signs_tx]) (some (.str (tx cs))) vh cs none h
  refine runP_of ⟨[some (.str (tx cs)), y1], ?_⟩ rfl
  have sq := fun s => x_seqTx (cs := cs) (s := s)
  clear h
  generalize cs.map (fun c => D.str (tx [c])) = CS at *
  cases q : txt1 cs with
  | true =>
    rw [q] at lp
    replace lp : _ = Res.ok Out.nx _ := lp
    clear q
    generalize tx cs = C at *
    unfold g_is_text
    walk_at "fyh"
  | false =>
    rw [q] at lp
    replace lp : _ = Res.ok (Out.rt (.bl false)) _ := lp
    clear q
    generalize tx cs = C at *
    unfold g_is_text
    walk_at "fyh"
/-- what is plain -/
def pln : D → Bool
  | .non => true
  | .int i => decide (-(10 ^ 30) < i ∧ i < 10 ^ 30)
  | .str x => decide (x.cps.toList.length ≤ 40) && txt1 x.cps.toList
  | _ => false
theorem pln_tx (cs : List Nat) : pln (.str (tx cs)) = (decide (cs.length ≤ 40) && txt1 cs) := by
  show (decide ((tx cs).cps.toList.length ≤ 40) && txt1 (tx cs).cps.toList) = _
  rw [tx_tl]
theorem is_bl (b : Bool) (s : Fx.S) : isM (.bl b) .non s = .ok (.bl false) s := rfl
theorem is_emp (s : Fx.S) : isM .emp .non s = .ok (.bl false) s := rfl
theorem t_isp {d : D} (h : Tg d) (vh : List Cell) : F_is_plain [d] vh = some (.bl (pln d)) := by
  have n := t_isn h vh
  cases h with
  | tx h hl =>
    rename_i cs
    have t := t_istx h vh
    have ln : ∀ s, lenM [.str (tx cs)] s = .ok (.int (cs.length : Nat)) s := fun s => x_lenTx (by omega)
    rw [pln_tx]
    refine runP_of ?_ rfl
    by_cases q : cs.length ≤ 40
    · have le : ∀ s, leM (.int (cs.length : Nat)) (.int 40) s = .ok (.bl true) s := fun s => by rw [x_le, decide_eq_true (by omega)]
      rw [decide_eq_true q, Bool.true_and]
      clear h hl n q
      generalize txt1 cs = B at *
      generalize (cs.length : Int) = L at *
      generalize tx cs = C at *
      unfold g_is_plain
      walk_at "fyh"
      cases B <;> exact ⟨_, rfl⟩
    · have le : ∀ s, leM (.int (cs.length : Nat)) (.int 40) s = .ok (.bl false) s := fun s => by rw [x_le, decide_eq_false (by omega)]
      rw [decide_eq_false q, Bool.false_and]
      clear h hl n q t
      generalize (cs.length : Int) = L at *
      generalize tx cs = C at *
      unfold g_is_plain
      walk_at "fyh"
      exact ⟨_, rfl⟩
  | int i =>
    refine runP_of ?_ rfl
    unfold num1 at n
    unfold pln
    generalize decide (-(10 ^ 30) < i ∧ i < 10 ^ 30) = B at *
    unfold g_is_plain
    walk_at "fyh"
    cases B <;> exact ⟨_, rfl⟩
  | _ =>
    refine runP_of ?_ rfl
    dsimp only [num1, pln] at *
    have i1 := is_bl
    have i2 := is_emp
    unfold g_is_plain
    walk_at "fyh"
    exact ⟨_, rfl⟩
/-! plain, key, word: as the law has it and as the program has it -/
theorem txt1_sk {cs : List Nat} (h : ∀ c ∈ cs, sk c) : txt1 cs = (decide (10 ∉ cs) && decide (9 ∉ cs)) := by
  unfold txt1
  rw [Bool.eq_iff_iff, List.all_eq_true, Bool.and_eq_true, decide_eq_true_eq, decide_eq_true_eq]
  constructor
  · intro g
    exact ⟨fun z => absurd (of_decide_eq_true (g 10 z)) (by decide), fun z => absurd (of_decide_eq_true (g 9 z)) (by decide)⟩
  · rintro ⟨g1, g2⟩ c hc
    rcases h c hc with z | z | z
    · exact decide_eq_true z
    · rw [z] at hc; exact absurd hc g2
    · rw [z] at hc; exact absurd hc g1
theorem nin1 (c : Nat) (cs : List Nat) (s : Fx.S) : ninAM (.str (tx [c])) (.str (tx cs)) s = .ok (.bl (decide (c ∉ cs))) s := by
  have e : ninAM (.str (tx [c])) (.str (tx cs)) s = .ok (.bl (decide (c ∈ (tx cs).cps.toList) == false)) s := rfl
  rw [tx_tl] at e
  rw [e]
  congr 2
  by_cases z : c ∈ cs
  · rw [decide_eq_true z, decide_eq_false (fun h => h z)]; rfl
  · rw [decide_eq_false z, decide_eq_true z]; rfl
theorem t_lp {d : D} (h : Tg d) (vh : List Cell) : F_l_plain [d] vh = some (.bl (pln d)) := by
  have w := t_lw h vh
  have i1 := is_bl
  have i2 := is_emp
  cases h with
  | tx h hl =>
    rename_i cs
    have ln : ∀ s, lenM [.str (tx cs)] s = .ok (.int (cs.length : Nat)) s := fun s => x_lenTx (by omega)
    have n1 : ∀ s, ninAM (.str (tx (cd "\n"))) (.str (tx cs)) s = .ok (.bl (decide (10 ∉ cs))) s := nin1 10 cs
    have n2 : ∀ s, ninAM (.str (tx (cd "\t"))) (.str (tx cs)) s = .ok (.bl (decide (9 ∉ cs))) s := nin1 9 cs
    rw [pln_tx, txt1_sk h]
    refine runP_of ?_ rfl
    generalize decide (10 ∉ cs) = B1 at *
    generalize decide (9 ∉ cs) = B2 at *
    by_cases q : cs.length ≤ 40
    · have le : ∀ s, ltAM (.int (cs.length : Nat)) (.int 41) s = .ok (.bl true) s := fun s => by
        show Res.ok (D.bl (decide _)) s = _
        rw [decide_eq_true (by omega)]
      rw [decide_eq_true q, Bool.true_and]
      clear h hl q w
      generalize (cs.length : Int) = L at *
      generalize tx cs = C at *
      unfold g_l_plain
      walk_at "fyh"
      cases B1 <;> cases B2 <;> exact ⟨_, rfl⟩
    · have le : ∀ s, ltAM (.int (cs.length : Nat)) (.int 41) s = .ok (.bl false) s := fun s => by
        show Res.ok (D.bl (decide _)) s = _
        rw [decide_eq_false (by omega)]
      rw [decide_eq_false q, Bool.false_and]
      clear h hl q w n1 n2
      generalize (cs.length : Int) = L at *
      generalize tx cs = C at *
      unfold g_l_plain
      walk_at "fyh"
      exact ⟨_, rfl⟩
  | int i =>
    refine runP_of ?_ rfl
    replace w : F_l_whole [.int i] vh = some (.bl true) := w
    have pw : ∀ s, powM (.int 10) (.int 30) s = .ok (.int (10 ^ 30)) s := fun _ => rfl
    obtain ⟨T, hT⟩ : ∃ T : Int, T = 10 ^ 30 := ⟨_, rfl⟩
    have ab : ∀ s, absM [.int i] s = .ok (.int (if i < 0 then -i else i)) s := fun s => x_abs
    obtain ⟨a, ha⟩ : ∃ a, (if i < 0 then -i else i) = a := ⟨_, rfl⟩
    rw [ha] at ab
    have lt : ∀ s, ltAM (.int a) (.int T) s = .ok (.bl (pln (.int i))) s := fun s => by
      show Res.ok (D.bl (decide (a < T))) s = Res.ok (D.bl (decide _)) s
      congr 2
      rw [decide_eq_decide, ← ha, hT]
      split <;> omega
    rw [← hT] at pw
    clear ha hT
    generalize pln (.int i) = B at *
    unfold g_l_plain
    walk_at "fyh"
    exact ⟨_, rfl⟩
  | _ =>
    refine runP_of ?_ rfl
    dsimp only [whl, pln] at *
    unfold g_l_plain
    walk_at "fyh"
    exact ⟨_, rfl⟩
/-! words -/
def AL : List Nat := cd "abcdefghijklmnopqrstuvwxyz"
def al (c : Nat) : Bool := decide (c ∈ AL)
def wrd1 : D → Bool
  | .str x => decide (1 ≤ x.cps.toList.length ∧ x.cps.toList.length ≤ 12) && x.cps.toList.all al
  | _ => false
theorem wrd1_tx (cs : List Nat) : wrd1 (.str (tx cs)) = (decide (1 ≤ cs.length ∧ cs.length ≤ 12) && cs.all al) := by
  show (decide (1 ≤ (tx cs).cps.toList.length ∧ (tx cs).cps.toList.length ≤ 12) && (tx cs).cps.toList.all al) = _
  rw [tx_tl]
theorem nin_al (c : Nat) (s : Fx.S) : ninAM (.str (tx [c])) (.str (tx (cd "abcdefghijklmnopqrstuvwxyz"))) s = .ok (.bl (!al c)) s := by
  rw [nin1]
  congr 2
  unfold al AL
  by_cases z : c ∈ cd "abcdefghijklmnopqrstuvwxyz"
  · rw [decide_eq_true z, decide_eq_false (fun h => h z)]; rfl
  · rw [decide_eq_false z, decide_eq_true z]; rfl
theorem turnWd (c : Nat) (x0 : Option D) (vh : List Cell) : b_is_word_1 ⟨[x0, some (.str (tx [c]))], vh⟩ = .ok (if al c = true then .nx else .rt (.bl false)) ⟨[x0, some (.str (tx [c]))], vh⟩ := by
  have n := nin_al c
  cases q : al c with
  | true =>
    rw [q] at n
    clear q
    generalize (tx [c]) = C at *
    unfold b_is_word_1
    walk_at "fyh"
  | false =>
    rw [q] at n
    clear q
    generalize (tx [c]) = C at *
    unfold b_is_word_1
    walk_at "fyh"
theorem loopWd {ok : Fx.S → Prop} (hok : ∀ s, ok s) (x0 : Option D) (vh : List Cell) : ∀ (cs : List Nat) (x1 : Option D),
    ∃ y1, loopM ok (setL 1) b_is_word_1 (cs.map fun c => D.str (tx [c])) ⟨[x0, x1], vh⟩ = .ok (if cs.all al = true then .nx else .rt (.bl false)) ⟨[x0, y1], vh⟩
  | [], x1 => ⟨x1, loop0 (hok _)⟩
  | c :: cs, x1 => by
    have t := turnWd c x0 vh
    rw [List.all_cons]
    cases g : al c with
    | true =>
      rw [g, if_pos rfl] at t
      obtain ⟨y1, r⟩ := loopWd hok x0 vh cs (some (.str (tx [c])))
      refine ⟨y1, ?_⟩
      rw [List.map_cons, loopS (hok _) rfl t, r, Bool.true_and]
    | false =>
      rw [g, if_neg (by decide)] at t
      refine ⟨some (.str (tx [c])), ?_⟩
      rw [List.map_cons, loopR (hok _) rfl t, Bool.false_and]
      rfl
theorem t_isw1 {d : D} (h : Tg d) (vh : List Cell) : F_is_word [d] vh = some (.bl (wrd1 d)) := by
  cases h with
  | tx h hl =>
    rename_i cs
    have ln : ∀ s, lenM [.str (tx cs)] s = .ok (.int (cs.length : Nat)) s := fun s => x_lenTx (by omega)
    rw [wrd1_tx]
    by_cases a : 1 ≤ cs.length
    · have l1 : ∀ s, ltAM (.int (cs.length : Nat)) (.int 1) s = .ok (.bl false) s := fun s => by
        show Res.ok (D.bl (decide _)) s = _
        rw [decide_eq_false (by omega)]
      by_cases b : cs.length ≤ 12
      · have l2 : ∀ s, gtM (.int (cs.length : Nat)) (.int 12) s = .ok (.bl false) s := fun s => by
          rw [x_gt, decide_eq_false (by omega)]
        obtain ⟨y1, lp⟩ := loopWd (ok := fun s' => itemsOf s' (.str (tx cs)) = some (cs.map fun c => D.str (tx [c]))) (fun s => by show some (Fx.signs (tx cs)) = _; rw [signs_tx]) (some (.str (tx cs))) vh cs none
        have sq := fun s => x_seqTx (cs := cs) (s := s)
        rw [decide_eq_true ⟨a, b⟩, Bool.true_and]
        refine runP_of ⟨[some (.str (tx cs)), y1], ?_⟩ rfl
        clear h hl a b
        generalize cs.map (fun c => D.str (tx [c])) = CS at *
        cases q : cs.all al with
        | true =>
          rw [q] at lp
          replace lp : _ = Res.ok Out.nx _ := lp
          clear q
          generalize (cs.length : Int) = LN at *
          generalize tx cs = C at *
          unfold g_is_word
          walk_at "fyh"
        | false =>
          rw [q] at lp
          replace lp : _ = Res.ok (Out.rt (.bl false)) _ := lp
          clear q
          generalize (cs.length : Int) = LN at *
          generalize tx cs = C at *
          unfold g_is_word
          walk_at "fyh"
      · have l2 : ∀ s, gtM (.int (cs.length : Nat)) (.int 12) s = .ok (.bl true) s := fun s => by
          rw [x_gt, decide_eq_true (by omega)]
        rw [decide_eq_false (fun h => b h.2), Bool.false_and]
        refine runP_of ?_ rfl
        clear h hl a b
        generalize (cs.length : Int) = LN at *
        generalize tx cs = C at *
        unfold g_is_word
        walk_at "fyh"
        exact ⟨_, rfl⟩
    · have l1 : ∀ s, ltAM (.int (cs.length : Nat)) (.int 1) s = .ok (.bl true) s := fun s => by
        show Res.ok (D.bl (decide _)) s = _
        rw [decide_eq_true (by omega)]
      rw [decide_eq_false (fun h => a h.1), Bool.false_and]
      refine runP_of ?_ rfl
      clear h hl a
      generalize (cs.length : Int) = LN at *
      generalize tx cs = C at *
      unfold g_is_word
      walk_at "fyh"
      exact ⟨_, rfl⟩
  | _ =>
    refine runP_of ?_ rfl
    dsimp only [wrd1] at *
    unfold g_is_word
    walk_at "fyh"
    exact ⟨_, rfl⟩
theorem eq_none (X : List D) (h : Eqd 64 (.lst X)) (nb : nbD (.lst X) = true) (s : Fx.S) : eqAL (.lst X) (.lst []) s = .ok (.bl X.isEmpty) s := by
  refine x_eqAL1 ?_
  cases X with
  | nil => exact x_eqSelf h
  | cons x X => exact x_eqNe h (Eqd.lst (n := 63) fun d hd => by cases hd) nb rfl fun e => by cases e
theorem t_lw1 {d : D} (h : Tg d) (vh : List Cell) : F_l_word [d] vh = some (.bl (wrd1 d)) := by
  cases h with
  | tx h hl =>
    rename_i cs
    have ln : ∀ s, lenM [.str (tx cs)] s = .ok (.int (cs.length : Nat)) s := fun s => x_lenTx (by omega)
    rw [wrd1_tx]
    by_cases a : 1 ≤ cs.length
    · have l1 : ∀ s, eqM (.int (cs.length : Nat)) (.int 0) s = .ok (.bl false) s := fun s => by
        rw [x_eqI, decide_eq_false (by omega)]
      by_cases b : cs.length ≤ 12
      · have l2 : ∀ s, gtM (.int (cs.length : Nat)) (.int 12) s = .ok (.bl false) s := fun s => by
          rw [x_gt, decide_eq_false (by omega)]
        have sq := fun s => x_seqTx (cs := cs) (s := s)
        have q := lc_pure (ok := fun s' => itemsOf s' (.str (tx cs)) = some (cs.map fun c => D.str (tx [c]))) (l := [some (.str (tx cs)), none]) (vh := vh) (i := 1) (c := tst (bin ninAM (getL 1) (ret (.str "abcdefghijklmnopqrstuvwxyz")))) (e := getL 1) (f := bnd (getL 0) seqI) cs (fun c => D.str (tx [c])) (fun c => D.str (tx [c])) (fun c => !al c) (by
          clear l1 l2 a b h hl ln
          generalize cs.map (fun c => D.str (tx [c])) = CS at *
          generalize tx cs = C at *
          walk_at "fyh") (fun _ => by show some (Fx.signs (tx cs)) = _; rw [signs_tx]) (by omega) (fun c _ => by
            have n := nin_al c
            clear l1 l2 a b h hl ln sq
            generalize al c = B at *
            generalize (tx [c]) = C at *
            walk_at "fyh") (fun c _ _ => rfl)
        have cl : c_l_word_1 ⟨[some (.str (tx cs)), none], vh⟩ = _ := q
        have eqn := eq_none ((cs.filter fun c => !al c).map fun c => D.str (tx [c])) (Eqd.lst (n := 63) fun d hd => by
          obtain ⟨c, hc, rfl⟩ := List.mem_map.mp hd
          exact .tx fun e he => by
            rw [List.mem_singleton.mp he]
            have := (h c (List.mem_filter.mp hc).1).lt
            omega) (nbL_all fun d hd => by obtain ⟨c, _, rfl⟩ := List.mem_map.mp hd; rfl)
        have em : ((cs.filter fun c => !al c).map fun c => D.str (tx [c])).isEmpty = cs.all al := by
          rw [Bool.eq_iff_iff, List.isEmpty_iff, List.map_eq_nil_iff, List.filter_eq_nil_iff, List.all_eq_true]
          constructor
          · intro g c hc
            have := g c hc
            cases q : al c with
            | true => rfl
            | false => rw [q] at this; exact absurd rfl this
          · intro g c hc
            rw [g c hc]
            decide
        rw [em] at eqn
        rw [decide_eq_true ⟨a, b⟩, Bool.true_and]
        refine runP_of ?_ rfl
        clear h hl a b em q sq
        generalize (cs.filter fun c => !al c).map (fun c => D.str (tx [c])) = CS at *
        generalize cs.all al = B at *
        generalize (cs.length : Int) = LN at *
        generalize tx cs = C at *
        unfold g_l_word
        walk_at "fyh"
        exact ⟨_, rfl⟩
      · have l2 : ∀ s, gtM (.int (cs.length : Nat)) (.int 12) s = .ok (.bl true) s := fun s => by
          rw [x_gt, decide_eq_true (by omega)]
        rw [decide_eq_false (fun h => b h.2), Bool.false_and]
        refine runP_of ?_ rfl
        clear h hl a b
        generalize (cs.length : Int) = LN at *
        generalize tx cs = C at *
        unfold g_l_word
        walk_at "fyh"
        exact ⟨_, rfl⟩
    · have l1 : ∀ s, eqM (.int (cs.length : Nat)) (.int 0) s = .ok (.bl true) s := fun s => by
        rw [x_eqI, decide_eq_true (by omega)]
      rw [decide_eq_false (fun h => a h.1), Bool.false_and]
      refine runP_of ?_ rfl
      clear h hl a
      generalize (cs.length : Int) = LN at *
      generalize tx cs = C at *
      unfold g_l_word
      walk_at "fyh"
      exact ⟨_, rfl⟩
  | _ =>
    refine runP_of ?_ rfl
    dsimp only [wrd1] at *
    unfold g_l_word
    walk_at "fyh"
    exact ⟨_, rfl⟩
/-! the law's own order -/
local macro_rules | `(tactic| walk_at "fx") => `(tactic| walk_at "fy")
local macro_rules | `(tactic| walk_at "fxh") => `(tactic| walk_at "fyh")
theorem t_before (a b : Pl) (vh : List Cell) : F_before [a.d, b.d] vh = some (.bl (a.lt b)) := by
  refine runP_of ?_ rfl
  unfold g_before
  cases a <;> cases b <;> simp only [Pl.d, Pl.lt] <;> walk_at "fx" <;> first | exact ⟨_, rfl⟩ | (simp only [x_ltS, tx_tl]; exact ⟨_, rfl⟩) | trace_state
theorem t_rank (a : Fx.Pl) (vh : List Cell) : F_l_rank [a.d] vh = some a.rank := by
  have k : lenOk 3 = true := lenOk_of (by decide)
  cases a <;> simp only [Pl.d, Pl.rank]
  all_goals
    refine runP_of ?_ rfl
    unfold g_l_rank
    walk_at "fxh"
    first | exact ⟨_, rfl⟩ | trace_state
structure Lk (A : D) (vh : List Cell) (ks : List Fx.Pl) : Prop where
  ix : ∀ l i, ixAM A (.int i) ⟨l, vh⟩ = Res.opt (atI (ks.map Pl.d) i) ⟨l, vh⟩
  len : ∀ l, lenM [A] ⟨l, vh⟩ = .ok (.int ks.length) ⟨l, vh⟩
theorem lk_at {vh : List Cell} {n : Nat} {ks : List Pl} (h : vh[n]? = some (.lst (ks.map Pl.d))) : Lk (.cell n) vh ks where
  ix := fun l i => by
    rw [x_ixC, show (⟨l, vh⟩ : Fx.S).vh[n]? = some (.lst (ks.map Pl.d)) from h]
    rfl
  len := fun l => by
    rw [x_lenC, show (⟨l, vh⟩ : Fx.S).vh[n]? = some (.lst (ks.map Pl.d)) from h]
    show Res.ok (D.int ((ks.map Pl.d).length : Nat)) _ = _
    rw [List.length_map]
theorem lk_cell (vh : List Cell) (ks : List Pl) : Lk (.cell vh.length) (vh ++ [Cell.lst (ks.map Pl.d)]) ks := lk_at (by simp)
/-! the search -/
abbrev cnd : M Bool := tst (bin ltAM (getL 2) (getL 3))
@[reducible] def stp (A : D) (p : Fx.Pl) (lo hi : Nat) (m : Option D) (vh : List Cell) : S := ⟨[some A, some p.d, some (.int lo), some (.int hi), m], vh⟩
theorem x_ixLast {l : List (Option D)} {vh : List Cell} {acc : List Pl} {q : Pl} : ixAM (.cell vh.length) (.int (-1)) ⟨l, vh ++ [Cell.lst ((acc ++ [q]).map Pl.d)]⟩ = .ok q.d ⟨l, vh ++ [Cell.lst ((acc ++ [q]).map Pl.d)]⟩ := by
  rw [(lk_cell vh (acc ++ [q])).ix]
  have e2 : atI ((acc ++ [q]).map Pl.d) (-1) = some q.d := by
    unfold atI
    rw [List.length_map, List.length_append, show ixN (acc.length + [q].length) (-1) = some acc.length by simp [ixN] <;> omega]
    simp
  rw [e2]
  rfl
theorem x_eqCell {l : List (Option D)} {vh : List Cell} {acc : List Pl} (h : ∀ p ∈ acc, p.ok) : eqM (.cell vh.length) (.lst []) ⟨l, vh ++ [Cell.lst (acc.map Pl.d)]⟩ = .ok (.bl (decide (acc = []))) ⟨l, vh ++ [Cell.lst (acc.map Pl.d)]⟩ := by
  show eqD _ _ _ = _
  unfold eqD
  have e1 : pyD ⟨l, vh ++ [Cell.lst (acc.map Pl.d)]⟩ (.cell vh.length) = some (.list (acc.map Pl.py)) := by
    unfold pyD
    dsimp only
    rw [last_cell]
    dsimp only
    rw [Pl.pyL]; rfl
  have e2 : pyD ⟨l, vh ++ [Cell.lst (acc.map Pl.d)]⟩ (.lst []) = some (.list (([] : List Pl).map Pl.py)) := rfl
  rw [e1, e2]
  dsimp only
  rw [Pl.shapedL h, Pl.shapedL (ps := []) (by intro p hp; cases hp), PyData.eqv, Pl.eqvL]
  rfl
@[reducible] def rst (A : D) (acc : List Fx.Pl) (x : Option D) (vh : List Cell) : S := ⟨[some A, some (.cell vh.length), x, none], vh ++ [Cell.lst (acc.map Pl.d)]⟩
theorem turnR (A : D) (acc : List Pl) (x : Pl) (vh : List Cell) (h : ∀ p ∈ acc, p.ok) (hl : acc.length < 1000000) (hle : ∀ q, acc.getLast? = some q → q.le x = true) :
    b_l_rising_1 (rst A acc (some x.d) vh) = .ok .nx (rst A (if acc.getLast? = some x then acc else acc ++ [x]) (some x.d) vh) := by
  have hq : (acc.map Pl.d).length < 16777216 := by rw [List.length_map]; omega
  have ec := fun l => x_eqCell (l := l) (vh := vh) h
  have ap : ∀ l, appM (.cell vh.length) [x.d] ⟨l, vh ++ [Cell.lst (acc.map Pl.d)]⟩ = .ok .non ⟨l, vh ++ [Cell.lst ((acc ++ [x]).map Pl.d)]⟩ := fun l => by
    rw [x_appL hq, List.map_append]; rfl
  have ty : isTyR (vh ++ [Cell.lst (acc.map Pl.d)])[vh.length]? = true := by simp; rfl
  have l0 : lenOk 0 = true := rfl
  have rx := fun v => t_rank x v
  rcases List.eq_nil_or_concat acc with h0 | ⟨r, q, h0⟩
  · subst h0
    rw [decide_eq_true rfl] at ec
    rw [if_neg (by intro e; cases e)]
    clear h hl hle hq
    unfold rst
    generalize vh ++ [Cell.lst (([] ++ [x]).map Pl.d)] = v2 at *
    generalize vh ++ [Cell.lst (([] : List Fx.Pl).map Pl.d)] = v1 at *
    generalize x.d = XD at *
    unfold b_l_rising_1
    walk_at "fxh"
  · rw [List.concat_eq_append] at h0
    subst h0
    have e0 : (r ++ [q]).getLast? = some q := by simp
    rw [decide_eq_false (by simp)] at ec
    have ix := fun l => x_ixLast (l := l) (vh := vh) (acc := r) (q := q)
    have rq := fun v => t_rank q v
    have lt := fun s => rank_lt q x s
    rw [e0]
    cases c : q.lt x with
    | true =>
      have ne : ¬ some q = some x := fun e => by
        have e := Option.some.inj e
        rw [e, Pl.irr] at c
        cases c
      rw [if_neg ne]
      rw [c] at lt
      clear h hl hle hq e0 ne c
      unfold rst
      generalize vh ++ [Cell.lst ((r ++ [q] ++ [x]).map Pl.d)] = v2 at *
      generalize vh ++ [Cell.lst ((r ++ [q]).map Pl.d)] = v1 at *
      generalize x.d = XD at *
      generalize q.d = QD at *
      generalize q.rank = QR at *
      generalize x.rank = XR at *
      unfold b_l_rising_1
      walk_at "fxh"
    | false =>
      have eq : q = x := by
        rcases Pl.le_iff.mp (hle q e0) with e | e
        · exact e
        · rw [e] at c; cases c
      rw [if_pos (by rw [eq])]
      rw [c] at lt
      clear h hl hle hq e0 c eq
      unfold rst
      generalize vh ++ [Cell.lst ((r ++ [q] ++ [x]).map Pl.d)] = v2 at *
      generalize vh ++ [Cell.lst ((r ++ [q]).map Pl.d)] = v1 at *
      generalize x.d = XD at *
      generalize q.d = QD at *
      generalize q.rank = QR at *
      generalize x.rank = XR at *
      unfold b_l_rising_1
      walk_at "fxh"
theorem t_risingA {A : D} (ps : List Pl) (vh : List Cell) (hA : ∀ x1 x2 more, c_l_rising_1 ⟨[some A, x1, x2, none], vh ++ more⟩ = .ok (.lst (ps.map Pl.d)) ⟨[some A, x1, x2, none], vh ++ more⟩) (h : ∀ p ∈ ps, p.ok) (hl : ps.length < 1000000) : F_l_rising [A] vh = some (.lst ((ordPl ps).map Pl.d)) := by
  have hp := sortPl_perm ps
  have hs := sortPl_sorted ps
  have hsl : (sortPl ps).length = ps.length := hp.length_eq
  have key : ∃ ks : List Pl, Rise ks ∧ (∀ x, x ∈ ks ↔ x ∈ ps) ∧ ∃ l, g_l_rising (initS 4 [A] vh) = .ok (.rt (.cell vh.length)) ⟨l, vh ++ [Cell.lst (ks.map Pl.d)]⟩ := by
    unfold g_l_rising
    walk_at "fx"
    rw [hA]
    walk_at "fx"
    have so : ∀ st : Fx.S, sortKN F_l_rank (.lst (ps.map Pl.d)) st = .ok (.lst ((sortPl ps).map Pl.d)) st := fun st => (sort_rank (fun p _ => t_rank p _) (by omega))
    rw [so]
    walk_at "fx"
    obtain ⟨s2, h1, acc, r, a1, a2, a3, a4, e⟩ := loopM_run (ok := fun s' => itemsOf s' (.lst ((sortPl ps).map Pl.d)) = some ((sortPl ps).map Pl.d)) (t := setL 2) (b := b_l_rising_1)
      (fun i s => ∃ (acc : List Fx.Pl) (r : Option D), Rise acc ∧ (∀ x, x ∈ acc ↔ x ∈ (sortPl ps).take i) ∧ acc.length ≤ i ∧ (∀ q, acc.getLast? = some q → ∃ j, j < i ∧ (sortPl ps)[j]? = some q) ∧ s = rst A acc r vh) ((sortPl ps).map Pl.d) (rst A [] none vh) (fun _ _ _ => rfl)
      (fun i d s hi ⟨acc, r, a1, a2, a3, a4, hs2⟩ => by
        subst hs2
        have hi2 := (List.getElem?_eq_some_iff.mp hi).1
        rw [List.length_map] at hi2
        rw [List.getElem?_map, List.getElem?_eq_getElem hi2] at hi
        have hi3 : some (sortPl ps)[i].d = some d := hi
        cases hi3
        have hok : ∀ q ∈ sortPl ps, q.ok := fun q hq => h q (hp.mem_iff.mp hq)
        have hx : (sortPl ps)[i].ok := hok _ (List.getElem_mem hi2)
        refine ⟨_, rfl, _, .inl (turnR A acc _ vh (fun q hq => hok q (List.mem_of_mem_take ((a2 q).mp hq))) (by omega) (fun q hq => by
          obtain ⟨j, hj, hz⟩ := a4 q hq
          obtain ⟨hj1, hj2⟩ := List.getElem?_eq_some_iff.mp hz
          rw [← hj2]
          exact List.pairwise_iff_getElem.mp hs j i hj1 hi2 hj)), ?_⟩
        have et := List.take_succ_eq_append_getElem hi2
        by_cases c : acc.getLast? = some (sortPl ps)[i]
        · rw [if_pos c]
          refine ⟨acc, _, a1, fun x => ?_, by omega, fun y hy => ?_, rfl⟩
          · rw [et, List.mem_append, a2 x, List.mem_singleton]
            constructor
            · exact .inl
            · rintro (h | h)
              · exact h
              · rw [h]; exact (a2 _).mp (List.mem_of_getLast? c)
          · obtain ⟨j, h1, h2⟩ := a4 y hy
            exact ⟨j, by omega, h2⟩
        · rw [if_neg c]
          refine ⟨acc ++ [_], _, ?_, fun x => ?_, by rw [List.length_append, List.length_singleton]; omega, fun y hy => ⟨i, Nat.lt_succ_self i, by rw [List.getElem?_eq_getElem hi2]; simpa using hy⟩, rfl⟩
          · refine List.pairwise_append.mpr ⟨a1, List.pairwise_singleton _ _, fun a ha b hb => ?_⟩
            rw [List.mem_singleton.mp hb]
            obtain ⟨m, hm, e1⟩ := List.mem_iff_getElem.mp ((a2 a).mp ha)
            rw [List.length_take] at hm
            rw [List.getElem_take] at e1
            have hle : a.le (sortPl ps)[i] = true := by
              rw [← e1]
              exact List.pairwise_iff_getElem.mp hs m i _ hi2 (by omega)
            rcases Pl.le_iff.mp hle with e2 | e2
            · exfalso
              -- the last of acc is not below a, and not above (sortPl ps)[i]
              have hne : acc ≠ [] := fun z => by rw [z] at ha; cases ha
              obtain ⟨m2, hm2, e3⟩ := List.mem_iff_getElem.mp ha
              have hz : acc.getLast? = some acc[acc.length - 1] := by rw [List.getLast?_eq_getElem?, List.getElem?_eq_getElem]
              obtain ⟨j, hj, hz2⟩ := a4 _ hz
              have hj2 := (List.getElem?_eq_some_iff.mp hz2)
              obtain ⟨hj3, hj4⟩ := hj2
              have h5 : acc[acc.length - 1].le (sortPl ps)[i] = true := by
                rw [← hj4]
                exact List.pairwise_iff_getElem.mp hs j i hj3 hi2 hj
              rw [← e2, ← e3] at h5
              by_cases hmm : m2 = acc.length - 1
              · apply c
                rw [hz, ← e2, ← e3]
                congr 1
                exact getElem_congr_idx hmm.symm
              · have h6 := Rise.at a1 hm2 (show acc.length - 1 < acc.length by omega) (by omega)
                unfold Pl.le at h5
                rw [h6] at h5
                cases h5
            · exact e2
          · rw [et, List.mem_append, List.mem_append, a2 x]) ⟨[], none, List.Pairwise.nil, (by intro x; simp), Nat.le_refl _, (by intro q hq; cases hq), rfl⟩
    subst e
    have h1' : loopM (fun s' => itemsOf s' (.lst ((sortPl ps).map Pl.d)) = some ((sortPl ps).map Pl.d)) (setL 2) b_l_rising_1 ((sortPl ps).map Pl.d) ⟨[some A, some (D.cell vh.length), none, none], vh ++ [Cell.lst []]⟩ = .ok .nx (rst A acc r vh) := h1
    rw [h1']
    walk_at "fx"
    refine ⟨acc, a1, fun x => ?_, _, rfl⟩
    rw [a2 x, List.length_map, List.take_length]
    exact hp.mem_iff
  obtain ⟨ks, h0, h2, l, h4⟩ := key
  rw [← Rise.ext h0 (ord_rise ps) (fun x => by rw [h2, ord_mem])]
  exact runP_cell (k := 0) (more := [Cell.lst (ks.map Pl.d)]) ⟨l, h4⟩ rfl (Pl.ncL _ _)
/-! things kept that are plain, in rising order -/
theorem ins_len (v : Pl) : ∀ ks : List Pl, (insPl v ks).length ≤ ks.length + 1
  | [] => by simp [insPl]
  | k :: ks => by
    unfold insPl
    have := ins_len v ks
    split
    · simp only [List.length_cons]; omega
    · split <;> simp only [List.length_cons] <;> omega
theorem ord_len (vs : List Pl) : (ordPl vs).length ≤ vs.length := by
  have : ∀ (vs acc : List Pl), (vs.foldl (fun acc v => insPl v acc) acc).length ≤ acc.length + vs.length := by
    intro vs
    induction vs with
    | nil => intro acc; simp
    | cons v vs ih =>
      intro acc
      have h1 := ih (insPl v acc)
      have h2 := ins_len v acc
      rw [List.foldl_cons, List.length_cons]
      omega
  have := this vs []
  unfold ordPl
  simpa using this
def plD : D → Pl
  | .int i => .int i
  | .str x => .str x.cps.toList
  | _ => .non
theorem plD_d {d : D} (h : Tg d) (p : pln d = true) : (plD d).d = d := by
  cases h with
  | tx h hl =>
    show D.str (tx (tx _).cps.toList) = _
    rw [tx_tl]
  | non => rfl
  | int i => rfl
  | _ => cases p
theorem plD_ok {d : D} (h : Tg d) : (plD d).ok := by
  cases h with
  | tx h hl =>
    show ∀ c ∈ (tx _).cps.toList, c < 1114112
    rw [tx_tl]
    intro c hc
    have := (h c hc).lt
    omega
  | _ => trivial
theorem plD_map {L : List D} (h : ∀ d ∈ L, Tg d) : ((L.filter pln).map plD).map Pl.d = L.filter pln := by
  rw [List.map_map]
  conv => rhs; rw [← List.map_id (L.filter pln)]
  refine List.map_congr_left fun d hd => ?_
  obtain ⟨h1, h2⟩ := List.mem_filter.mp hd
  exact plD_d (h d h1) h2
theorem t_ris {L : List D} (h : ∀ d ∈ L, Tg d) (hl : L.length ≤ 1000) (vh : List Cell) : F_l_rising [.lst L] vh = some (.lst ((ordPl ((L.filter pln).map plD)).map Pl.d)) := by
  refine t_risingA ((L.filter pln).map plD) vh (fun x1 x2 more => ?_) (fun p hp => ?_) ?_
  · have q := lc_pure (ok := fun s' => itemsOf s' (.lst L) = some L) (l := [some (.lst L), x1, x2, none]) (vh := vh ++ more) (i := 3) (c := tst (bnd (consM (getL 3) (ret [])) (callP 1 F_l_plain))) (e := getL 3) (f := bnd (getL 0) seqI) L id id pln (by
      rw [List.map_id]
      rfl) (fun _ => rfl) (by omega) (fun d hd => by
        have t := t_lp (h d hd) (vh ++ more)
        dsimp only [id]
        generalize pln d = B at *
        clear h
        walk_at "fyh") (fun d _ _ => rfl)
    rw [List.map_id, ← plD_map h] at q
    exact q
  · obtain ⟨d, hd, rfl⟩ := List.mem_map.mp hp
    exact plD_ok (h d (List.mem_filter.mp hd).1)
  · have := List.length_filter_le pln L
    rw [List.length_map]
    omega
/-! a list and what is rising of it -/
open Classical in
noncomputable def risD (L : List D) : Bool := L.all pln && decide (Rise (L.map plD))
theorem eqvAll_len : ∀ (ps qs : List PyData), ps.length ≠ qs.length → PyData.eqvAll ps qs = false
  | [], [], h => absurd rfl h
  | [], _ :: _, _ => rfl
  | _ :: _, [], _ => rfl
  | p :: ps, q :: qs, h => by
    unfold PyData.eqvAll
    rw [eqvAll_len ps qs (fun e => h (by rw [List.length_cons, List.length_cons, e])), Bool.and_false]
theorem pyL_len : ∀ {ds : List D} {ps : List PyData}, pyL ds = some ps → ps.length = ds.length
  | [], _, h => by cases h; rfl
  | d :: ds, _, h => by
    unfold pyL at h
    cases h1 : pyT d with
    | none => rw [h1] at h; cases h
    | some y =>
      cases h2 : pyL ds with
      | none => rw [h1, h2] at h; cases h
      | some ys => rw [h1, h2] at h; cases h; rw [List.length_cons, List.length_cons, pyL_len h2]
theorem eq_len {X Y : List D} (h : X.length ≠ Y.length) (s : Fx.S) : eqAL (.lst X) (.lst Y) s = .ok (.bl false) s := by
  have main : eqM (.lst X) (.lst Y) s = .ok (.bl false) s ∨ eqM (.lst X) (.lst Y) s = .bad := by
    show eqD (.lst X) (.lst Y) s = _ ∨ eqD (.lst X) (.lst Y) s = _
    unfold eqD
    cases e1 : pyD s (.lst X) with
    | none => exact .inr rfl
    | some p =>
      cases e2 : pyD s (.lst Y) with
      | none => exact .inr rfl
      | some q =>
        dsimp only
        split
        · left
          have f1 : (pyL X).map PyData.list = some p := e1
          have f2 : (pyL Y).map PyData.list = some q := e2
          obtain ⟨ps, g1, rfl⟩ := Option.map_eq_some_iff.mp f1
          obtain ⟨qs, g2, rfl⟩ := Option.map_eq_some_iff.mp f2
          have : PyData.eqv (.list ps) (.list qs) = PyData.eqvAll ps qs := by unfold PyData.eqv; rfl
          rw [this, eqvAll_len ps qs (by rw [pyL_len g1, pyL_len g2]; exact h)]
        · exact .inr rfl
  rcases main with m | m
  · exact x_eqAL1 m
  · exact x_eqAL0 m rfl rfl h
open Classical in
theorem eq_ris {L : List D} (h : ∀ d ∈ L, Tg d) (s : Fx.S) : eqAL (.lst L) (.lst ((ordPl ((L.filter pln).map plD)).map Pl.d)) s = .ok (.bl (risD L)) s := by
  by_cases a : L.all pln = true
  · have fl : L.filter pln = L := List.filter_eq_self.mpr (List.all_eq_true.mp a)
    have pm := plD_map h
    rw [fl] at pm
    have ok : ∀ p ∈ L.map plD, p.ok := fun p hp => by
      obtain ⟨d, hd, rfl⟩ := List.mem_map.mp hp
      exact plD_ok (h d hd)
    refine x_eqAL1 ?_
    rw [fl]
    have e := x_eqPls (s := s) ok (fun p hp => ok p ((ord_mem _ _).mp hp) : ∀ p ∈ ordPl (L.map plD), p.ok)
    rw [pm] at e
    rw [e]
    unfold risD
    rw [a, Bool.true_and]
    congr 2
    rw [decide_eq_decide]
    constructor
    · intro z
      rw [z]
      exact ord_rise _
    · intro z
      exact Rise.ext z (ord_rise _) fun x => by rw [ord_mem]
  · have l1 : (ordPl ((L.filter pln).map plD)).length ≤ (L.filter pln).length := by
      have := ord_len ((L.filter pln).map plD)
      rw [List.length_map] at this
      exact this
    have l2 : (L.filter pln).length < L.length := by
      have := List.length_filter_le pln L
      rcases Nat.lt_or_ge (L.filter pln).length L.length with z | z
      · exact z
      · exfalso
        apply a
        rw [List.all_eq_true]
        exact List.length_filter_eq_length_iff.mp (by omega)
    unfold risD
    rw [Bool.not_eq_true] at a
    rw [a, Bool.false_and]
    exact eq_len (by rw [List.length_map]; omega) s
/-! clashes, as the law has them -/
noncomputable def cls (d : D) : Bool := match d with
  | .tup [a, .tup now] => pln a && (decide (2 ≤ now.length) && risD now)
  | _ => false
theorem Tg.two {a b : D} (h : Tg (.tup [a, b])) : Tg a ∧ Tg b := by
  cases h with
  | tup h _ => exact ⟨h a List.mem_cons_self, h b (List.mem_cons_of_mem _ List.mem_cons_self)⟩
theorem at_hd (d : D) (r : List D) : atI (d :: r) 0 = some d := by
  unfold atI
  rw [show ixN (d :: r).length 0 = some 0 by rw [List.length_cons]; simp [ixN]]
  rfl
theorem at_snd (d e : D) (r : List D) : atI (d :: e :: r) 1 = some e := by
  unfold atI
  rw [show ixN (d :: e :: r).length 1 = some 1 by rw [List.length_cons, List.length_cons]; simp [ixN] <;> omega]
  rfl
theorem t_lcl {a b : D} (ha : Tg a) (hb : Tg b) (vh : List Cell) : F_l_clash [.tup [a, b]] vh = some (.bl (cls (.tup [a, b]))) := by
  have pa := t_lp ha vh
  have a0 : atI [a, b] 0 = some a := at_hd _ _
  have a1 : atI [a, b] 1 = some b := at_snd _ _ _
  have ln : ∀ s, lenM [.tup [a, b]] s = .ok (.int 2) s := fun s => rfl
  have n2 : ∀ s, neM (.int 2) (.int 2) s = .ok (.bl false) s := fun s => rfl
  cases hb with
  | tup h hl =>
    rename_i N
    have e : cls (.tup [a, .tup N]) = (pln a && (decide (2 ≤ N.length) && risD N)) := rfl
    rw [e]
    refine runP_of ?_ rfl
    have lnN : ∀ s, lenM [.tup N] s = .ok (.int (N.length : Nat)) s := fun s => rfl
    cases qa : pln a with
    | false =>
      rw [qa] at pa
      rw [Bool.false_and]
      clear e qa
      unfold g_l_clash
      walk_at "fyh"
      unfold r_l_clash_1
      walk_at "fyh"
      exact ⟨_, rfl⟩
    | true =>
      rw [qa] at pa
      rw [Bool.true_and]
      clear e qa
      by_cases q : 2 ≤ N.length
      · have lt : ∀ s, ltAM (.int (N.length : Nat)) (.int 2) s = .ok (.bl false) s := fun s => by
          show Res.ok (D.bl (decide _)) s = _
          rw [decide_eq_false (by omega)]
        rw [decide_eq_true q, Bool.true_and]
        have ri := t_ris h hl vh
        have er := fun s => eq_ris h s
        have li : ∀ s, listN [.tup N] s = .ok (.lst N) s := fun _ => rfl
        have c1 : ∀ x2, c_l_clash_1 ⟨[some (.tup [a, .tup N]), some (.tup N), x2], vh⟩ = .ok (.lst (N.filter fun d => match d with | .bl _ => true | _ => false)) ⟨[some (.tup [a, .tup N]), some (.tup N), x2], vh⟩ := fun x2 => by
          have q := lc_pure (ok := fun s' => itemsOf s' (.tup N) = some N) (l := [some (.tup [a, .tup N]), some (.tup N), x2]) (vh := vh) (i := 2) (c := tst (bnd (getL 2) (isaM "bool"))) (e := getL 2) (f := bnd (getL 1) seqI) N id id (fun d => match d with | .bl _ => true | _ => false) (by
            rw [List.map_id]
            rfl) (fun _ => rfl) (by omega) (fun d hd => by
              have t := h d hd
              clear pa ri er h
              dsimp only [id]
              cases t <;> walk_at "fy" <;> rfl) (fun d _ _ => rfl)
          rw [List.map_id] at q
          exact q
        cases qr : risD N with
        | false =>
          rw [qr] at er
          clear qr h c1
          generalize (ordPl ((N.filter pln).map plD)).map Pl.d = R at *
          unfold g_l_clash
          walk_at "fyh"
          unfold r_l_clash_1
          walk_at "fyh"
          exact ⟨_, rfl⟩
        | true =>
          rw [qr] at er
          have al : N.all pln = true := by
            unfold risD at qr
            rw [Bool.and_eq_true] at qr
            exact qr.1
          have ff : (N.filter fun d => match d with | .bl _ => true | _ => false) = [] := by
            rw [List.filter_eq_nil_iff]
            intro d hd
            have := List.all_eq_true.mp al d hd
            cases h d hd with
            | bl b => cases this
            | _ => exact Bool.false_ne_true
          rw [ff] at c1
          have e0 : ∀ s, eqAL (.lst []) (.lst []) s = .ok (.bl true) s := fun s => x_eqAL1 (x_eqSelf (Eqd.lst (n := 63) fun d hd => by cases hd))
          clear qr h al ff
          generalize (ordPl ((N.filter pln).map plD)).map Pl.d = R at *
          unfold g_l_clash
          walk_at "fyh"
          unfold r_l_clash_1
          walk_at "fyh"
          exact ⟨_, rfl⟩
      · have lt : ∀ s, ltAM (.int (N.length : Nat)) (.int 2) s = .ok (.bl true) s := fun s => by
          show Res.ok (D.bl (decide _)) s = _
          rw [decide_eq_true (by omega)]
        rw [decide_eq_false q, Bool.false_and]
        clear h
        unfold g_l_clash
        walk_at "fyh"
        unfold r_l_clash_1
        walk_at "fyh"
        exact ⟨_, rfl⟩
  | _ =>
    refine runP_of ?_ rfl
    dsimp only [cls] at *
    generalize pln a = B at *
    unfold g_l_clash
    walk_at "fyh"
    unfold r_l_clash_1
    walk_at "fyh"
    cases B <;> exact ⟨_, rfl⟩
/-! clashes, as the program has them -/
def ltD (a b : D) : Bool := (plD a).lt (plD b)
def chain : List D → Bool
  | a :: b :: r => (pln b && ltD a b) && chain (b :: r)
  | _ => true
open Classical in
theorem chain_ris : ∀ (N : List D), (N.all pln && chain N) = risD N := by
  have key : ∀ (r : List D) (a : D), (r.all pln = true ∧ chain (a :: r) = true) ↔ (r.all pln = true ∧ Rise ((a :: r).map plD)) := fun r => by
    induction r with
    | nil => exact fun a => ⟨fun h => ⟨h.1, List.pairwise_singleton _ _⟩, fun h => ⟨h.1, rfl⟩⟩
    | cons b r ih =>
      intro a
      have ih := ih b
      have e1 : (b :: r).all pln = true ↔ pln b = true ∧ r.all pln = true := by rw [List.all_cons, Bool.and_eq_true]
      have e2 : chain (a :: b :: r) = true ↔ (pln b = true ∧ ltD a b = true) ∧ chain (b :: r) = true := by
        show ((pln b && ltD a b) && chain (b :: r)) = true ↔ _
        rw [Bool.and_eq_true, Bool.and_eq_true]
      rw [e1, e2]
      constructor
      · rintro ⟨⟨h1, h2⟩, ⟨_, h3⟩, h4⟩
        obtain ⟨_, h5⟩ := ih.mp ⟨h2, h4⟩
        refine ⟨⟨h1, h2⟩, List.pairwise_cons.mpr ⟨fun p hp => ?_, h5⟩⟩
        rcases List.mem_cons.mp hp with z | z
        · rw [z]; exact h3
        · exact Pl.tr h3 ((List.pairwise_cons.mp h5).1 p z)
      · rintro ⟨⟨h1, h2⟩, h3⟩
        obtain ⟨h4, h5⟩ := List.pairwise_cons.mp h3
        exact ⟨⟨h1, h2⟩, ⟨h1, h4 (plD b) List.mem_cons_self⟩, (ih.mpr ⟨h2, h5⟩).2⟩
  intro N
  unfold risD
  cases N with
  | nil =>
    show true = decide _
    rw [decide_eq_true]
    exact List.Pairwise.nil
  | cons a r =>
    rw [List.all_cons]
    cases pln a with
    | false => rfl
    | true =>
      rw [Bool.true_and, Bool.eq_iff_iff, Bool.and_eq_true, Bool.and_eq_true, decide_eq_true_eq]
      exact key r a
theorem t_bfD {a b : D} (ha : Tg a) (hb : Tg b) (pa : pln a = true) (pb : pln b = true) (vh : List Cell) : F_before [a, b] vh = some (.bl (ltD a b)) := by
  have := t_before (plD a) (plD b) vh
  rw [plD_d ha pa, plD_d hb pb] at this
  exact this
theorem turnCl {N : List D} (h : ∀ d ∈ N, Tg d) {j : Nat} {a b : D} (ea : N[j]? = some a) (eb : N[j + 1]? = some b) (pa : pln a = true) (x0 : Option D) (vh : List Cell) :
    b_is_clash_1 ⟨[x0, some (.tup N), some (.int ((j + 1 : Nat) : Int))], vh⟩ = .ok (if (pln b && ltD a b) = true then .nx else .rt (.bl false)) ⟨[x0, some (.tup N), some (.int ((j + 1 : Nat) : Int))], vh⟩ := by
  have ta := h a (List.mem_of_getElem? ea)
  have tb := h b (List.mem_of_getElem? eb)
  have p := t_isp tb vh
  have l1 : j + 1 < N.length := (List.getElem?_eq_some_iff.mp eb).1
  have ib : atI N ((j + 1 : Nat) : Int) = some b := by rw [atI_ofNat l1]; exact eb
  have ia : atI N (((j + 1 : Nat) : Int) - 1) = some a := by
    rw [show ((j + 1 : Nat) : Int) - 1 = ((j : Nat) : Int) by omega, atI_ofNat (by omega)]
    exact ea
  have f : pln b = true → F_before [a, b] vh = some (.bl (ltD a b)) := fun pb => t_bfD ta tb pa pb vh
  cases qb : pln b with
  | false =>
    rw [qb] at p
    rw [Bool.false_and]
    clear f h ta tb qb l1 ea eb
    generalize ((j + 1 : Nat) : Int) = J at *
    unfold b_is_clash_1
    walk_at "fyh"
    try rfl
  | true =>
    rw [qb] at p
    replace f := f qb
    rw [Bool.true_and]
    clear h ta tb qb l1 ea eb
    generalize ((j + 1 : Nat) : Int) = J at *
    generalize ltD a b = B at *
    unfold b_is_clash_1
    walk_at "fyh"
    cases B <;> rfl
theorem loopCl {N : List D} (h : ∀ d ∈ N, Tg d) {ok : Fx.S → Prop} (hok : ∀ s, ok s) (x0 : Option D) (vh : List Cell) : ∀ (r : List D) (j : Nat) (a : D) (x : Option D), N.drop j = a :: r → pln a = true →
    ∃ y, loopM ok (setL 2) b_is_clash_1 ((List.range r.length).map fun k => D.int ((j + 1 + k : Nat) : Int)) ⟨[x0, some (.tup N), x], vh⟩ = .ok (if chain (a :: r) = true then .nx else .rt (.bl false)) ⟨[x0, some (.tup N), y], vh⟩
  | [], j, a, x, _, _ => ⟨x, loop0 (hok _)⟩
  | b :: r, j, a, x, hd, pa => by
    have ea : N[j]? = some a := by
      have : (N.drop j)[0]? = some a := by rw [hd]; rfl
      rwa [List.getElem?_drop, Nat.add_zero] at this
    have eb : N[j + 1]? = some b := by
      have : (N.drop j)[1]? = some b := by rw [hd]; rfl
      rwa [List.getElem?_drop] at this
    have hd2 : N.drop (j + 1) = b :: r := by
      rw [← List.drop_drop, hd]
      rfl
    have t := turnCl h ea eb pa x0 vh
    have ec : chain (a :: b :: r) = ((pln b && ltD a b) && chain (b :: r)) := rfl
    rw [ec, List.length_cons, List.range_succ_eq_map, List.map_cons, List.map_map, Nat.add_zero]
    have fe : ((fun k => D.int ((j + 1 + k : Nat) : Int)) ∘ Nat.succ) = fun k => D.int ((j + 1 + 1 + k : Nat) : Int) := by
      funext k
      show D.int ((j + 1 + (k + 1) : Nat) : Int) = _
      rw [show j + 1 + (k + 1) = j + 1 + 1 + k by omega]
    rw [fe]
    cases q : pln b && ltD a b with
    | false =>
      rw [q, if_neg (by decide)] at t
      refine ⟨some (.int ((j + 1 : Nat) : Int)), ?_⟩
      rw [loopR (hok _) rfl t, Bool.false_and]
      rfl
    | true =>
      rw [q, if_pos rfl] at t
      rw [Bool.and_eq_true] at q
      obtain ⟨y, r'⟩ := loopCl h hok x0 vh r (j + 1) b (some (.int ((j + 1 : Nat) : Int))) hd2 q.1
      refine ⟨y, ?_⟩
      rw [loopS (hok _) rfl t, r', Bool.true_and]
theorem t_icl {a b : D} (ha : Tg a) (hb : Tg b) (vh : List Cell) : F_is_clash [.tup [a, b]] vh = some (.bl (cls (.tup [a, b]))) := by
  have pa := t_isp ha vh
  have a0 : atI [a, b] 0 = some a := at_hd _ _
  have a1 : atI [a, b] 1 = some b := at_snd _ _ _
  have ln : ∀ s, lenM [.tup [a, b]] s = .ok (.int 2) s := fun s => rfl
  have n2 : ∀ s, neM (.int 2) (.int 2) s = .ok (.bl false) s := fun s => rfl
  cases hb with
  | tup h hl =>
    rename_i N
    have e : cls (.tup [a, .tup N]) = (pln a && (decide (2 ≤ N.length) && risD N)) := rfl
    rw [e]
    refine runP_of ?_ rfl
    have lnN : ∀ s, lenM [.tup N] s = .ok (.int (N.length : Nat)) s := fun s => rfl
    cases qa : pln a with
    | false =>
      rw [qa] at pa
      rw [Bool.false_and]
      clear e qa
      unfold g_is_clash
      walk_at "fyh"
      exact ⟨_, rfl⟩
    | true =>
      rw [qa] at pa
      rw [Bool.true_and]
      clear e qa
      by_cases q : 2 ≤ N.length
      · have lt : ∀ s, ltAM (.int (N.length : Nat)) (.int 2) s = .ok (.bl false) s := fun s => by
          show Res.ok (D.bl (decide _)) s = _
          rw [decide_eq_false (by omega)]
        rw [decide_eq_true q, Bool.true_and]
        obtain ⟨c, r, rfl⟩ : ∃ c r, N = c :: r := by
          cases N with
          | nil => exact absurd q (by decide)
          | cons c r => exact ⟨c, r, rfl⟩
        have c0 : atI (c :: r) 0 = some c := at_hd _ _
        have pc := t_isp (h c List.mem_cons_self) vh
        rw [← chain_ris, List.all_cons]
        cases qc : pln c with
        | false =>
          rw [qc] at pc
          rw [Bool.false_and, Bool.false_and]
          clear h qc
          generalize ((c :: r).length : Int) = LN at *
          generalize c :: r = N at *
          unfold g_is_clash
          walk_at "fyh"
          exact ⟨_, rfl⟩
        | true =>
          rw [qc] at pc
          rw [Bool.true_and]
          obtain ⟨y, lp⟩ := loopCl h (ok := fun _ => True) (fun _ => trivial) (some (.tup [a, .tup (c :: r)])) vh r 0 c none rfl qc
          have ob1 : okB 1 = true := okB_of (by omega) (by omega)
          have ob : okB ((c :: r).length : Int) = true := okB_of (by omega) (by omega)
          have rn : ∀ s : Fx.S, ran2I [.int 1, .int ((c :: r).length : Nat)] s = .ok ⟨(List.range r.length).map fun k => D.int ((0 + 1 + k : Nat) : Int), fun _ => True⟩ s := fun s => by
            have e : ranD 1 ((((c :: r).length : Nat) : Int) - 1).toNat = (List.range r.length).map fun k => D.int ((0 + 1 + k : Nat) : Int) := by
              unfold ranD
              rw [show (((c :: r).length : Nat) : Int) - 1 = ((r.length : Nat) : Int) by rw [List.length_cons]; omega, Int.toNat_natCast]
              refine List.map_congr_left fun k _ => ?_
              congr 1
            rw [← e]
            exact x_ran2 ob1 ob
          have ce : (r.all pln && chain (c :: r)) = chain (c :: r) := by
            cases qq : chain (c :: r) with
            | false => rw [Bool.and_false]
            | true =>
              rw [Bool.and_true]
              have key : ∀ (r : List D) (c : D), chain (c :: r) = true → r.all pln = true := fun r => by
                induction r with
                | nil => exact fun _ _ => rfl
                | cons b r ih =>
                  intro c hc
                  have hc : ((pln b && ltD c b) && chain (b :: r)) = true := hc
                  rw [Bool.and_eq_true, Bool.and_eq_true] at hc
                  rw [List.all_cons, hc.1.1, ih b hc.2]
                  rfl
              exact key r c qq
          rw [ce]
          clear h ob qc ce hl q
          generalize (List.range r.length).map (fun k => D.int ((0 + 1 + k : Nat) : Int)) = RG at *
          generalize ((c :: r).length : Int) = LN at *
          cases qq : chain (c :: r) with
          | false =>
            rw [qq] at lp
            replace lp : _ = Res.ok (Out.rt (.bl false)) _ := lp
            clear qq
            generalize c :: r = N at *
            unfold g_is_clash
            walk_at "fyh"
            exact ⟨_, rfl⟩
          | true =>
            rw [qq] at lp
            replace lp : _ = Res.ok Out.nx _ := lp
            clear qq
            generalize c :: r = N at *
            unfold g_is_clash
            walk_at "fyh"
            exact ⟨_, rfl⟩
      · have lt : ∀ s, ltAM (.int (N.length : Nat)) (.int 2) s = .ok (.bl true) s := fun s => by
          show Res.ok (D.bl (decide _)) s = _
          rw [decide_eq_true (by omega)]
        rw [decide_eq_false q, Bool.false_and]
        clear h
        unfold g_is_clash
        walk_at "fyh"
        exact ⟨_, rfl⟩
  | _ =>
    refine runP_of ?_ rfl
    dsimp only [cls] at *
    generalize pln a = B at *
    unfold g_is_clash
    walk_at "fyh"
    cases B <;> exact ⟨_, rfl⟩
/-! clashes of any thing; keys, values -/
theorem cls_len {ds : List D} (h : ds.length ≠ 2) : cls (.tup ds) = false := by
  match ds, h with
  | [], _ => rfl
  | [_], _ => rfl
  | [_, _], h => exact absurd rfl h
  | _ :: b :: _ :: _, _ => cases b <;> rfl
theorem t_isc {d : D} (h : Tg d) (vh : List Cell) : F_is_clash [d] vh = some (.bl (cls d)) := by
  cases h with
  | tup h hl =>
    rename_i ds
    by_cases z : ds.length = 2
    · obtain ⟨a, b, rfl⟩ : ∃ a b, ds = [a, b] := by
        match ds, z with
        | [a, b], _ => exact ⟨a, b, rfl⟩
      exact t_icl (h a List.mem_cons_self) (h b (List.mem_cons_of_mem _ List.mem_cons_self)) vh
    · have ln : ∀ s, lenM [.tup ds] s = .ok (.int (ds.length : Nat)) s := fun s => rfl
      have ne : ∀ s, neM (.int (ds.length : Nat)) (.int 2) s = .ok (.bl true) s := fun s => by
        rw [x_neI, decide_eq_false (by omega)]
        rfl
      rw [cls_len z]
      refine runP_of ?_ rfl
      clear h z
      generalize (ds.length : Int) = L at *
      unfold g_is_clash
      walk_at "fyh"
      exact ⟨_, rfl⟩
  | _ =>
    refine runP_of ?_ rfl
    dsimp only [cls] at *
    unfold g_is_clash
    walk_at "fyh"
    exact ⟨_, rfl⟩
theorem t_lc {d : D} (h : Tg d) (vh : List Cell) : F_l_clash [d] vh = some (.bl (cls d)) := by
  cases h with
  | tup h hl =>
    rename_i ds
    by_cases z : ds.length = 2
    · obtain ⟨a, b, rfl⟩ : ∃ a b, ds = [a, b] := by
        match ds, z with
        | [a, b], _ => exact ⟨a, b, rfl⟩
      exact t_lcl (h a List.mem_cons_self) (h b (List.mem_cons_of_mem _ List.mem_cons_self)) vh
    · have ln : ∀ s, lenM [.tup ds] s = .ok (.int (ds.length : Nat)) s := fun s => rfl
      have ne : ∀ s, neM (.int (ds.length : Nat)) (.int 2) s = .ok (.bl true) s := fun s => by
        rw [x_neI, decide_eq_false (by omega)]
        rfl
      rw [cls_len z]
      refine runP_of ?_ rfl
      clear h z
      generalize (ds.length : Int) = L at *
      unfold g_l_clash
      walk_at "fyh"
      exact ⟨_, rfl⟩
  | _ =>
    refine runP_of ?_ rfl
    dsimp only [cls] at *
    unfold g_l_clash
    walk_at "fyh"
    exact ⟨_, rfl⟩
theorem t_isv {d : D} (h : Tg d) (vh : List Cell) : F_is_value [d] vh = some (.bl (pln d || cls d)) := by
  have p := t_isp h vh
  have c := t_isc h vh
  refine runP_of ?_ rfl
  clear h
  generalize pln d = B at *
  generalize cls d = C at *
  unfold g_is_value
  walk_at "fyh"
  cases B <;> exact ⟨_, rfl⟩
/-- a key -/
def key1 (d : D) : Bool := pln d && (match d with | .non => false | .str x => decide (1 ≤ x.cps.toList.length) | _ => true)
theorem key1_tx (cs : List Nat) : key1 (.str (tx cs)) = ((decide (cs.length ≤ 40) && txt1 cs) && decide (1 ≤ cs.length)) := by
  show (pln (.str (tx cs)) && decide (1 ≤ (tx cs).cps.toList.length)) = _
  rw [pln_tx, tx_tl]
theorem t_isk {d : D} (h : Tg d) (vh : List Cell) : F_is_key [d] vh = some (.bl (key1 d)) := by
  have n := t_isn h vh
  cases h with
  | tx h hl =>
    rename_i cs
    have t := t_istx h vh
    have ln : ∀ s, lenM [.str (tx cs)] s = .ok (.int (cs.length : Nat)) s := fun s => x_lenTx (by omega)
    have l1 : ∀ s, leM (.int 1) (.int (cs.length : Nat)) s = .ok (.bl (decide (1 ≤ cs.length))) s := fun s => by
      rw [x_le]
      congr 2
      rw [decide_eq_decide]
      omega
    have l2 : ∀ s, leM (.int (cs.length : Nat)) (.int 40) s = .ok (.bl (decide (cs.length ≤ 40))) s := fun s => by
      rw [x_le]
      congr 2
      rw [decide_eq_decide]
      omega
    rw [key1_tx]
    refine runP_of ?_ rfl
    clear h hl n
    generalize decide (1 ≤ cs.length) = B1 at *
    generalize decide (cs.length ≤ 40) = B2 at *
    generalize txt1 cs = B3 at *
    generalize (cs.length : Int) = L at *
    generalize tx cs = C at *
    unfold g_is_key
    walk_at "fyh"
    cases B1 <;> cases B2 <;> cases B3 <;> exact ⟨_, rfl⟩
  | int i =>
    refine runP_of ?_ rfl
    have e : key1 (.int i) = num1 (.int i) := by show (pln (.int i) && true) = _; rw [Bool.and_true]; rfl
    rw [e]
    generalize num1 (.int i) = B at *
    unfold g_is_key
    walk_at "fyh"
    exact ⟨_, rfl⟩
  | _ =>
    refine runP_of ?_ rfl
    dsimp only [num1, key1, pln, Bool.true_and, Bool.false_and, Bool.and_false] at *
    unfold g_is_key
    walk_at "fyh"
    exact ⟨_, rfl⟩
/-! a thing, asked -/
theorem turnA (b : Bool) (x0 x1 x2 x3 x4 x5 x6 : Option D) (v : List Cell) : b_l_asked_1 ⟨[x0, x1, x2, x3, x4, some (.bl b), some (.bl b)], v⟩ = .ok .nx ⟨[x0, x1, x2, x3, x4, some (.bl b), some (.bl b)], v⟩ := by
  have ne : ∀ s, neM (.bl b) (.bl b) s = .ok (.bl false) s := fun s => by cases b <;> rfl
  unfold b_l_asked_1
  walk_at "fyh"
theorem loopA {ok : Fx.S → Prop} {v : List Cell} (hok : ∀ l, ok ⟨l, v⟩) (x0 x1 x2 x3 x4 : Option D) : ∀ (bs : List Bool) (x5 x6 : Option D), ∃ y5 y6,
    loopM ok (unp2 5 6) b_l_asked_1 (bs.map fun b => D.pr (.bl b) (.bl b)) ⟨[x0, x1, x2, x3, x4, x5, x6], v⟩ = .ok .nx ⟨[x0, x1, x2, x3, x4, y5, y6], v⟩
  | [], x5, x6 => ⟨x5, x6, loop0 (hok _)⟩
  | b :: bs, x5, x6 => by
    obtain ⟨y5, y6, r⟩ := loopA hok x0 x1 x2 x3 x4 bs (some (.bl b)) (some (.bl b))
    refine ⟨y5, y6, ?_⟩
    rw [List.map_cons, loopS (hok _) (show unp2 5 6 (.pr (.bl b) (.bl b)) _ = .ok .nx ⟨[x0, x1, x2, x3, x4, some (.bl b), some (.bl b)], v⟩ from rfl) (turnA b x0 x1 x2 x3 x4 (some (.bl b)) (some (.bl b)) v), r]
/-- what the law has for a key -/
theorem key_due {d : D} (h : Tg d) (x1 x2 x3 x4 x5 : Option D) (v : List Cell) : andV (getL 1) (andV (bin isnotM (getL 0) (ret .non)) (bin neM (getL 0) (ret (.str "")))) ⟨[some d, some (.bl (pln d)), x2, x3, x4, x5], v⟩ = .ok (.bl (key1 d)) ⟨[some d, some (.bl (pln d)), x2, x3, x4, x5], v⟩ := by
  cases h with
  | tx h hl =>
    rename_i cs
    have e : key1 (.str (tx cs)) = (pln (.str (tx cs)) && decide (1 ≤ cs.length)) := by rw [key1_tx, pln_tx]
    have n1 : ∀ s, isnotM (.str (tx cs)) .non s = .ok (.bl true) s := fun _ => rfl
    have n2 : ∀ s, neM (.str (tx cs)) (.str (tx [])) s = .ok (.bl (decide (1 ≤ cs.length))) s := fun s => by
      rw [x_neS]
      congr 2
      cases cs with
      | nil => rw [decide_eq_true rfl]; rfl
      | cons c cs =>
        rw [decide_eq_false (fun e => by cases e), decide_eq_true (by rw [List.length_cons]; omega)]
        rfl
    rw [e]
    clear h hl e
    generalize pln (.str (tx cs)) = B at *
    generalize decide (1 ≤ cs.length) = B2 at *
    generalize tx cs = C at *
    cases B <;> walk_at "fyh"
  | int i =>
    have e : key1 (.int i) = pln (.int i) := by show (pln (.int i) && true) = _; rw [Bool.and_true]
    have n1 : ∀ s, isnotM (.int i) .non s = .ok (.bl true) s := fun _ => rfl
    have n2 : ∀ s, neM (.int i) (.str (tx [])) s = .ok (.bl true) s := fun s => x_neNe (.int i) (.tx (by decide)) rfl rfl (fun e => by cases e)
    rw [e]
    clear e
    generalize pln (.int i) = B at *
    cases B <;> walk_at "fyh"
  | _ =>
    dsimp only [key1, pln, Bool.true_and, Bool.false_and, Bool.and_false] at *
    walk_at "fyh"
theorem kcase {d : D} (h : Tg d) : (pln d = false ∧ key1 d = false) ∨ (pln d = true ∧ (∀ s, isnotM d .non s = .ok (.bl false) s) ∧ key1 d = false) ∨ (pln d = true ∧ (∀ s, isnotM d .non s = .ok (.bl true) s) ∧ ∀ s, neM d (.str (tx [])) s = .ok (.bl (key1 d)) s) := by
  cases q : pln d with
  | false => exact .inl ⟨rfl, by unfold key1; rw [q, Bool.false_and]⟩
  | true =>
    right
    cases h with
    | non => exact .inl ⟨rfl, fun _ => rfl, rfl⟩
    | int i => exact .inr ⟨rfl, fun _ => rfl, fun s => by
        have e : key1 (.int i) = true := by show (pln (.int i) && true) = true; rw [q]; rfl
        rw [e]
        exact x_neNe (.int i) (.tx (by decide)) rfl rfl (fun e => by cases e)⟩
    | tx h hl =>
      rename_i cs
      refine .inr ⟨rfl, fun _ => rfl, fun s => ?_⟩
      have e : key1 (.str (tx cs)) = decide (1 ≤ cs.length) := by
        rw [key1_tx, ← pln_tx, q, Bool.true_and]
      rw [e, x_neS]
      congr 2
      cases cs with
      | nil => rw [decide_eq_true rfl]; rfl
      | cons c cs =>
        rw [decide_eq_false (fun e => by cases e), decide_eq_true (by rw [List.length_cons]; omega)]
        rfl
    | _ => cases q
theorem zip_self (bs : List Bool) {n : Nat} {l : List (Option D)} {v : List Cell} (h : v[n]? = some (.lst (bs.map D.bl))) : zipA [.lst (bs.map D.bl), .cell n] ⟨l, v⟩ = .ok ⟨bs.map fun b => D.pr (.bl b) (.bl b), fun s' => lstOf s' (.lst (bs.map D.bl)) = some (bs.map D.bl) ∧ lstOf s' (.cell n) = some (bs.map D.bl)⟩ ⟨l, v⟩ := by
  have e : List.zipWith D.pr (bs.map D.bl) (bs.map D.bl) = bs.map fun b => D.pr (.bl b) (.bl b) := by
    induction bs with
    | nil => rfl
    | cons b bs ih =>
      rw [List.map_cons, List.zipWith_cons_cons, List.map_cons]
      congr 1
      clear h ih
      induction bs with
      | nil => rfl
      | cons b bs ih => rw [List.map_cons, List.zipWith_cons_cons, List.map_cons, ih]
  have h1 : lstOf ⟨l, v⟩ (.lst (bs.map D.bl)) = some (bs.map D.bl) := rfl
  have h2 : lstOf ⟨l, v⟩ (.cell n) = some (bs.map D.bl) := by
    unfold lstOf
    dsimp only
    rw [h]
  unfold zipA
  simp only [h1, h2, e]
theorem t_asked {d : D} (h : Tg d) (vh : List Cell) : F_l_asked [d] vh = some (.bl true) := by
  obtain ⟨bs, hbs⟩ : ∃ bs, [whl d, key1 d, pln d, cls d, pln d || cls d, wrd1 d] = bs := ⟨_, rfl⟩
  have v1 := t_lp h vh
  have v2 := t_lc h vh
  have v3 := t_lw h vh
  have v4 : ∀ more, F_l_word [d] (vh ++ more) = some (.bl (wrd1 d)) := fun more => t_lw1 h _
  have u1 : ∀ more, F_is_whole [d] (vh ++ more) = some (.bl (whl d)) := fun more => t_isw h _
  have u2 : ∀ more, F_is_key [d] (vh ++ more) = some (.bl (key1 d)) := fun more => t_isk h _
  have u3 : ∀ more, F_is_plain [d] (vh ++ more) = some (.bl (pln d)) := fun more => t_isp h _
  have u4 : ∀ more, F_is_clash [d] (vh ++ more) = some (.bl (cls d)) := fun more => t_isc h _
  have u5 : ∀ more, F_is_value [d] (vh ++ more) = some (.bl (pln d || cls d)) := fun more => t_isv h _
  have u6 : ∀ more, F_is_word [d] (vh ++ more) = some (.bl (wrd1 d)) := fun more => t_isw1 h _
  have zs := fun l => zip_self bs (l := l) (n := vh.length) (v := vh ++ [.lst (bs.map D.bl)]) (by simp)
  obtain ⟨y5, y6, lp⟩ := loopA (ok := fun s' => lstOf s' (.lst (bs.map D.bl)) = some (bs.map D.bl) ∧ lstOf s' (.cell vh.length) = some (bs.map D.bl)) (v := vh ++ [.lst (bs.map D.bl)]) (fun l => ⟨rfl, by
    unfold lstOf
    dsimp only
    rw [last_cell]⟩) (some d) (some (.bl (pln d))) (some (.bl (cls d))) (some (.cell vh.length)) (some (.lst (bs.map D.bl))) bs none none
  refine runP_more ⟨[some d, some (.bl (pln d)), some (.bl (cls d)), some (.cell vh.length), some (.lst (bs.map D.bl)), y5, y6], [.lst (bs.map D.bl)], ?_⟩ rfl
  have bm : [D.bl (whl d), D.bl (key1 d), D.bl (pln d), D.bl (cls d), D.bl (pln d || cls d), D.bl (wrd1 d)] = bs.map D.bl := by rw [← hbs]; rfl
  have lt5 : ([D.bl (whl d), D.bl (key1 d), D.bl (pln d), D.bl (cls d), D.bl (pln d || cls d)] : List D).length < 16777216 := by
    show 5 < 16777216
    omega
  have ap : ∀ l, appM (.cell vh.length) [.bl (wrd1 d)] ⟨l, vh ++ [.lst [D.bl (whl d), D.bl (key1 d), D.bl (pln d), D.bl (cls d), D.bl (pln d || cls d)]]⟩ = .ok .non ⟨l, vh ++ [.lst (bs.map D.bl)]⟩ := fun l => by
    rw [x_appL lt5, ← bm]
    rfl
  have ty : isTyR (vh ++ [Cell.lst [D.bl (whl d), D.bl (key1 d), D.bl (pln d), D.bl (cls d), D.bl (pln d || cls d)]])[vh.length]? = true := by simp; rfl
  have l5 : lenOk 5 = true := rfl
  have l6 : lenOk 6 = true := rfl
  have l7 : lenOk (bs.map D.bl).length = true := by rw [← bm]; rfl
  have kc := kcase h
  clear h hbs
  generalize bs.map D.bl = BM at *
  generalize bs.map (fun b => D.pr (.bl b) (.bl b)) = PM at *
  generalize (fun s' : Fx.S => lstOf s' (.lst BM) = some BM ∧ lstOf s' (.cell vh.length) = some BM) = OKF at *
  generalize whl d = W at *
  generalize wrd1 d = O at *
  generalize cls d = C at *
  generalize key1 d = K at *
  generalize pln d = P at *
  unfold g_l_asked
  rcases kc with ⟨e1, e2⟩ | ⟨e1, e2, e3⟩ | ⟨e1, e2, e3⟩
  · subst e1 e2
    rw [Bool.false_or] at *
    walk_at "fyh"
  · subst e1 e3
    rw [Bool.true_or] at *
    walk_at "fyh"
  · subst e1
    rw [Bool.true_or] at *
    walk_at "fyh"
/-! things drawn -/
def mix (c k : Int) : Int := ((c % 2147483647 + 7919 * k + 1) * 48271 % 2147483647 * ((c % 2147483647 + 7919 * k + 1) * 48271 % 2147483647) + k) % 2147483629
theorem mix_in (c k : Int) : 0 ≤ mix c k ∧ mix c k < 2147483629 := ⟨Int.emod_nonneg _ (by decide), Int.emod_lt_of_pos _ (by decide)⟩
theorem lg (x : Int) (h : -(2 ^ 62) < x) (h2 : x < 2 ^ 62) : x.natAbs.log2 < 62 := log2_of (by decide) (by omega)
theorem t_mix (c k : Int) (vh : List Cell) (h : 0 ≤ k) (h2 : k ≤ 1000) : F_l_mix [.int c, .int k] vh = some (.int (mix c k)) := by
  refine runP_of ?_ rfl
  unfold g_l_mix
  have a1 : (7919 : Int).natAbs.log2 + k.natAbs.log2 < 100000000 := by have := lg k (by omega) (by omega); have := lg 7919 (by decide) (by decide); omega
  have a2 : (c % 2147483647 + 7919 * k + 1).natAbs.log2 + (48271 : Int).natAbs.log2 < 100000000 := by
    have := lg (c % 2147483647 + 7919 * k + 1) (by omega) (by omega); have := lg 48271 (by decide) (by decide); omega
  have a3 : ((c % 2147483647 + 7919 * k + 1) * 48271 % 2147483647).natAbs.log2 + ((c % 2147483647 + 7919 * k + 1) * 48271 % 2147483647).natAbs.log2 < 100000000 := by
    have := lg ((c % 2147483647 + 7919 * k + 1) * 48271 % 2147483647) (by omega) (by omega); omega
  walk_at "fx"
  exact ⟨_, rfl⟩
theorem mix_sm (c k : Int) : Sm (mix c k) := by
  have := mix_in c k
  have := lg (mix c k) (by omega) (by omega)
  unfold Sm
  omega
def SG : List Nat := cd " !\"#$&'()*+,-./0123456789:;<=>?@ABCDEFGHIJKLMNOPQRSTUVWXYZ[\\]^_`" ++ cd "abcdefghijklmnopqrstuvwxyz{|}~"
theorem SG_len : SG.length = 94 := by decide +kernel
def sg (n : Int) : Nat := SG.getD (n % 94).toNat 0
theorem SG_in : ∀ c ∈ SG, gd c := by decide +kernel
theorem sg_in (n : Int) : gd (sg n) := by
  unfold sg
  rw [List.getD_eq_getElem?_getD, List.getElem?_eq_getElem (by rw [SG_len]; omega), Option.getD_some]
  exact SG_in _ (List.getElem_mem _)
theorem t_sign (n : Int) (vh : List Cell) : F_l_sign [.int n] vh = some (.str (tx [sg n])) := by
  have e1 : ∀ s, ixM (.str (tx SG)) (.int (n % 94)) s = .ok (.str (tx [sg n])) s := fun s => by
    rw [x_ixS (by rw [SG_len]; omega), atI_mod 0 (by decide) (by rw [SG_len]; rfl)]
    rfl
  refine runP_of ?_ rfl
  have l1 := SG_len
  unfold SG at l1 e1
  rw [List.length_append] at l1
  unfold g_l_sign
  walk_at "fy"
  rw [e1]
  walk_at "fy"
  exact ⟨_, rfl⟩
theorem t_number (c : Int) (vh : List Cell) (h : Sm c) : ∃ i : Int, F_l_number [.int c] vh = some (.int i) := by
  have a1 := (h.div (k := 4) (by decide)).mul 612345678901234567890123456789 (by decide)
  have a2 : (2 : Int).natAbs.log2 + ((10 : Int) ^ 30).natAbs.log2 < 100000000 := by decide
  have a4 : (4 : Int).natAbs.log2 + ((10 : Int) ^ 30).natAbs.log2 < 100000000 := by decide
  have a3 : (0 : Int) < 4 * 10 ^ 30 + 1 := by decide
  have p30 : (30 : Int).toNat = 30 := rfl
  obtain ⟨r, hr⟩ : ∃ r, r = c / 4 := ⟨_, rfl⟩
  rw [← hr] at a1
  replace hr := hr.symm
  by_cases c0 : c % 4 = 0
  · refine ⟨r % 21 - 10, runP_of ?_ rfl⟩
    unfold g_l_number
    walk_at "fxh"
    exact ⟨_, rfl⟩
  · by_cases c1 : c % 4 = 1
    · refine ⟨r * 612345678901234567890123456789 % (4 * 10 ^ 30 + 1) - 2 * 10 ^ 30, runP_of ?_ rfl⟩
      unfold g_l_number
      walk_at "fxh"
      exact ⟨_, rfl⟩
    · by_cases c2 : c % 4 = 2
      · refine ⟨10 ^ 30 - 2 + r % 5, runP_of ?_ rfl⟩
        unfold g_l_number
        walk_at "fxh"
        exact ⟨_, rfl⟩
      · refine ⟨2 - 10 ^ 30 - r % 5, runP_of ?_ rfl⟩
        unfold g_l_number
        walk_at "fxh"
        exact ⟨_, rfl⟩
theorem t_spoiled (c : Int) (cs od : List Nat) (vh : List Cell) (hl : cs.length ≤ 60) (ho : od.length = 1) : ∃ ds : List Nat, (∀ x ∈ ds, x ∈ cs ∨ x ∈ od) ∧ ds.length ≤ 61 ∧ F_l_spoiled [.int c, .str (tx cs), .str (tx od)] vh = some (.str (tx ds)) := by
  obtain ⟨n, hn⟩ := Int.eq_ofNat_of_zero_le (show 0 ≤ c % ((cs.length : Int) + 1) from Int.emod_nonneg _ (by omega))
  have nl : (n : Int) < (cs.length : Int) + 1 := hn ▸ Int.emod_lt_of_pos _ (by omega)
  refine ⟨cs.take n ++ od ++ cs.drop n, fun x hx => ?_, ?_, runP_of ?_ rfl⟩
  · rcases List.mem_append.mp hx with h | h
    · rcases List.mem_append.mp h with h | h
      · exact .inl (List.mem_of_mem_take h)
      · exact .inr h
    · exact .inl (List.mem_of_mem_drop h)
  · simp only [List.length_append, List.length_take, List.length_drop]
    omega
  · have k1 := cutS_take cs n
    have k2 := cutS_drop cs n
    have lo : lenOk cs.length = true := lenOk_of (by omega)
    have p : (0 : Int) < (cs.length : Int) + 1 := by omega
    have z1 : (cs.take n).length + od.length ≤ 16777216 := by rw [List.length_take]; omega
    have z2 : (cs.take n ++ od).length + (cs.drop n).length ≤ 16777216 := by rw [List.length_append, List.length_take, List.length_drop]; omega
    have z3 : cs.length ≤ 16777216 := by omega
    clear nl hl ho
    unfold g_l_spoiled
    walk_at "fxh"
    exact ⟨_, rfl⟩
/-! texts and single things drawn -/
theorem sk_sg (n : Int) : sk (sg n) := .inl (sg_in n)
theorem t_long (r : Int) (vh : List Cell) : ∃ cs : List Nat, (∀ x ∈ cs, sk x) ∧ cs.length ≤ 61 ∧ F_l_long [.int r] vh = some (.str (tx cs)) := by
  have m50 := mix_in r 50
  have e50 := fun vh => t_mix r 50 vh (by decide) (by decide)
  obtain ⟨y, hy⟩ := Int.eq_ofNat_of_zero_le (show 0 ≤ mix r 50 % 43 by omega)
  have ob : okB (y : Int) = true := okB_of (by omega) (by omega)
  have k1 : ∀ x1 x2, c_l_long_1 ⟨[some (.int r), x1, x2], vh⟩ = .ok (.lst (((List.range y).map fun k : Nat => sg (mix r (0 + (k : Int)))).map fun c => D.str (tx [c]))) ⟨[some (.int r), x1, x2], vh⟩ := fun x1 x2 => by
    have := lc_pure (ok := fun _ => True) (l := [some (.int r), x1, x2]) (vh := vh) (i := 2) (c := yesM) (e := (bnd (consM (bnd (consM (getL 0) (consM (getL 2) (ret []))) (callP 2 F_l_mix)) (ret [])) (callP 1 F_l_sign))) (f := (bnd (consM (bin modM (bnd (consM (getL 0) (consM (ret (.int 50)) (ret []))) (callP 2 F_l_mix)) (ret (.int 43))) (ret [])) ran1I)) (List.range y) (fun k => D.int (0 + (k : Int))) (fun k => D.str (tx [sg (mix r (0 + (k : Int)))])) (fun _ => true) (by
      have tn : (y : Int).toNat = y := Int.toNat_natCast y
      clear m50
      walk_at "fxh"
      rfl) (fun _ => trivial) (by rw [List.length_range]; omega) (fun _ _ => rfl) (fun k hk _ => by
      have hk := List.mem_range.mp hk
      have mk := t_mix r (0 + (k : Int)) vh (by omega) (by omega)
      clear m50 hk
      generalize (0 : Int) + (k : Int) = K at *
      have xa := t_sign (mix r K) vh
      generalize mix r K = M at *
      walk_at "fxh")
    rw [List.filter_eq_self.mpr (fun _ _ => rfl)] at this
    rw [List.map_map]
    exact this
  have jn := fun s => join_signs ((List.range y).map fun k : Nat => sg (mix r (0 + (k : Int)))) s (by rw [List.length_map, List.length_range]; omega)
  have hs : ∀ x ∈ ((List.range y).map fun k : Nat => sg (mix r (0 + (k : Int)))), sk x := fun x hx => by
    obtain ⟨k, _, rfl⟩ := List.mem_map.mp hx
    exact sk_sg _
  have hl : ((List.range y).map fun k : Nat => sg (mix r (0 + (k : Int)))).length ≤ 42 := by rw [List.length_map, List.length_range]; omega
  clear m50 hy
  generalize ((List.range y).map fun k : Nat => sg (mix r (0 + (k : Int)))) = CS at *
  by_cases c1 : r % 4 = 1
  · obtain ⟨ds, h1, h2, h3⟩ := t_spoiled (r / 4) CS [10] vh (by omega) rfl
    refine ⟨ds, fun x hx => ?_, h2, runP_of ?_ rfl⟩
    · rcases h1 x hx with h | h
      · exact hs x h
      · rw [List.mem_singleton.mp h]
        exact .inr (.inr rfl)
    · have h4 : F_l_spoiled [.int (r / 4), .str (tx CS), .str (tx (cd "\n"))] vh = some (.str (tx ds)) := h3
      clear hs hl h1 h2 h3
      unfold g_l_long
      walk_at "fxh"
      exact ⟨_, rfl⟩
  · by_cases c2 : r % 8 = 2
    · obtain ⟨ds, h1, h2, h3⟩ := t_spoiled (r / 8) CS [9] vh (by omega) rfl
      refine ⟨ds, fun x hx => ?_, h2, runP_of ?_ rfl⟩
      · rcases h1 x hx with h | h
        · exact hs x h
        · rw [List.mem_singleton.mp h]
          exact .inr (.inl rfl)
      · have h4 : F_l_spoiled [.int (r / 8), .str (tx CS), .str (tx (cd "\t"))] vh = some (.str (tx ds)) := h3
        clear hs hl h1 h2 h3
        unfold g_l_long
        walk_at "fxh"
        exact ⟨_, rfl⟩
    · refine ⟨CS, hs, by omega, runP_of ?_ rfl⟩
      clear hs hl
      unfold g_l_long
      walk_at "fxh"
      exact ⟨_, rfl⟩
def AZ : List Nat := cd "abcdefghijklmnopqrstuvwxyz"
theorem AZ_len : AZ.length = 26 := by decide +kernel
def az (n : Int) : Nat := AZ.getD (n % 26).toNat 0
theorem AZ_in : ∀ c ∈ AZ, gd c := by decide +kernel
theorem az_in (n : Int) : gd (az n) := by
  unfold az
  rw [List.getD_eq_getElem?_getD, List.getElem?_eq_getElem (by rw [AZ_len]; omega), Option.getD_some]
  exact AZ_in _ (List.getElem_mem _)
theorem x_az {n : Int} {s : Fx.S} : ixM (.str (tx (cd "abcdefghijklmnopqrstuvwxyz"))) (.int (n % 26)) s = .ok (.str (tx [az n])) s := by
  show ixM (.str (tx AZ)) (.int (n % 26)) s = _
  rw [x_ixS (by rw [AZ_len]; omega), atI_mod 0 (by decide) (by rw [AZ_len]; rfl)]
  rfl
theorem t_letters (r : Int) (vh : List Cell) : ∃ cs : List Nat, (∀ x ∈ cs, sk x) ∧ cs.length ≤ 61 ∧ F_l_letters [.int r] vh = some (.str (tx cs)) := by
  have m50 := mix_in r 50
  have e50 := fun vh => t_mix r 50 vh (by decide) (by decide)
  have e51 := fun vh => t_mix r 51 vh (by decide) (by decide)
  obtain ⟨y, hy⟩ := Int.eq_ofNat_of_zero_le (show 0 ≤ mix r 50 % 14 by omega)
  have ob : okB (y : Int) = true := okB_of (by omega) (by omega)
  have k1 : ∀ x2 x3, c_l_letters_1 ⟨[some (.int r), some (.str (tx (cd "abcdefghijklmnopqrstuvwxyz"))), x2, x3], vh⟩ = .ok (.lst (((List.range y).map fun k : Nat => az (mix r (0 + (k : Int)))).map fun c => D.str (tx [c]))) ⟨[some (.int r), some (.str (tx (cd "abcdefghijklmnopqrstuvwxyz"))), x2, x3], vh⟩ := fun x2 x3 => by
    have := lc_pure (ok := fun _ => True) (l := [some (.int r), some (.str (tx (cd "abcdefghijklmnopqrstuvwxyz"))), x2, x3]) (vh := vh) (i := 3) (c := yesM) (e := (bin ixAM (getL 1) (bin modM (bnd (consM (getL 0) (consM (getL 3) (ret []))) (callP 2 F_l_mix)) (ret (.int 26))))) (f := (bnd (consM (bin modM (bnd (consM (getL 0) (consM (ret (.int 50)) (ret []))) (callP 2 F_l_mix)) (ret (.int 14))) (ret [])) ran1I)) (List.range y) (fun k => D.int (0 + (k : Int))) (fun k => D.str (tx [az (mix r (0 + (k : Int)))])) (fun _ => true) (by
      have tn : (y : Int).toNat = y := Int.toNat_natCast y
      clear m50
      walk_at "fxh"
      rfl) (fun _ => trivial) (by rw [List.length_range]; omega) (fun _ _ => rfl) (fun k hk _ => by
      have hk := List.mem_range.mp hk
      have mk := t_mix r (0 + (k : Int)) vh (by omega) (by omega)
      clear m50 hk
      generalize (0 : Int) + (k : Int) = K at *
      have xa := fun s => x_az (n := mix r K) (s := s)
      generalize mix r K = M at *
      walk_at "fxh")
    rw [List.filter_eq_self.mpr (fun _ _ => rfl)] at this
    rw [List.map_map]
    exact this
  have jn := fun s => join_signs ((List.range y).map fun k : Nat => az (mix r (0 + (k : Int)))) s (by rw [List.length_map, List.length_range]; omega)
  have hs : ∀ x ∈ ((List.range y).map fun k : Nat => az (mix r (0 + (k : Int)))), sk x := fun x hx => by
    obtain ⟨k, _, rfl⟩ := List.mem_map.mp hx
    exact .inl (az_in _)
  have hl : ((List.range y).map fun k : Nat => az (mix r (0 + (k : Int)))).length ≤ 42 := by rw [List.length_map, List.length_range]; omega
  clear m50 hy
  generalize ((List.range y).map fun k : Nat => az (mix r (0 + (k : Int)))) = CS at *
  by_cases c1 : r % 3 = 1
  · obtain ⟨ds, h1, h2, h3⟩ := t_spoiled (r / 3) CS [sg (mix r 51)] vh (by omega) rfl
    have sg1 := t_sign (mix r 51) vh
    refine ⟨ds, fun x hx => ?_, h2, runP_of ?_ rfl⟩
    · rcases h1 x hx with h | h
      · exact hs x h
      · rw [List.mem_singleton.mp h]
        exact sk_sg _
    · clear hs hl h1 h2
      generalize mix r 51 = M at *
      unfold g_l_letters
      walk_at "fxh"
      exact ⟨_, rfl⟩
  · refine ⟨CS, hs, by omega, runP_of ?_ rfl⟩
    clear hs hl
    unfold g_l_letters
    walk_at "fxh"
    exact ⟨_, rfl⟩
abbrev p12 : D := .tup [.int 1, .int 2]
def others : List D := [.non, .bl true, .bl false, .lst [], .emp, .tup [], .tup [.int 5, p12], .lst [.int 5, p12], .tup [.int 5, .lst [.int 1, .int 2]], .tup [.int 5], .tup [.int 5, .int 7], .tup [.int 5, .str (tx (cd "ab"))]]
theorem tg1 {d : D} (h : Tg d) : ∀ x ∈ [d], Tg x := fun x hx => by rw [List.mem_singleton.mp hx]; exact h
theorem tg2 {d e : D} (h : Tg d) (h2 : Tg e) : ∀ x ∈ [d, e], Tg x := fun x hx => by
  rcases List.mem_cons.mp hx with rfl | hx
  · exact h
  · rw [List.mem_singleton.mp hx]; exact h2
theorem tg3 {d e f : D} (h : Tg d) (h2 : Tg e) (h3 : Tg f) : ∀ x ∈ [d, e, f], Tg x := fun x hx => by
  rcases List.mem_cons.mp hx with rfl | hx
  · exact h
  · exact tg2 h2 h3 x hx
theorem others_tg : ∀ d ∈ others, Tg d := by
  have n : ∀ x ∈ ([] : List D), Tg x := fun x hx => nomatch hx
  have i := Tg.int
  have t12 : Tg p12 := .tup (tg2 (i 1) (i 2)) (by decide)
  have ab : Tg (.str (tx (cd "ab"))) := .tx (cs := [97, 98]) (fun c hc => .inl (by
    have : ∀ c ∈ [97, 98], gd c := by decide
    exact this c hc)) (by decide)
  have all : ∀ {ds : List D}, (∀ d ∈ ds, Tg d) → ∀ {e : D}, Tg e → ∀ d ∈ e :: ds, Tg d := fun h e he d hd => by
    rcases List.mem_cons.mp hd with rfl | hd
    · exact he
    · exact h d hd
  exact all (all (all (all (all (all (all (all (all (all (all (all n (.tup (tg2 (i 5) ab) (by decide))) (.tup (tg2 (i 5) (i 7)) (by decide))) (.tup (tg1 (i 5)) (by decide))) (.tup (tg2 (i 5) (.lst (tg2 (i 1) (i 2)) (by decide))) (by decide))) (.lst (tg2 (i 5) t12) (by decide))) (.tup (tg2 (i 5) t12) (by decide))) (.tup n (by decide))) .emp) (.lst n (by decide))) (.bl _)) (.bl _)) .non
theorem ncL_of (b : Nat) : ∀ {ds : List D}, (∀ d ∈ ds, nc b d = true) → ncL b ds = true
  | [], _ => rfl
  | d :: ds, h => by
    unfold ncL
    rw [h d List.mem_cons_self, ncL_of b fun x hx => h x (List.mem_cons_of_mem _ hx)]
    rfl
theorem Tg.ncb {d : D} (h : Tg d) (b : Nat) : nc b d = true := by
  induction h with
  | lst h hl ih => exact ncL_of b ih
  | tup h hl ih => exact ncL_of b ih
  | _ => rfl
theorem t_other (n : Int) (vh : List Cell) : ∃ d, Tg d ∧ F_l_other [.int n] vh = some d := by
  have ol : others.length = 12 := rfl
  have e1 : ∀ s, ixAM (.lst others) (.int (n % 12)) s = .ok (others.getD (n % 12).toNat .non) s := fun s => by
    rw [x_ixAL, atI_mod .non (by decide) (by rw [ol]; rfl)]
    rfl
  have tg : Tg (others.getD (n % 12).toNat .non) := by
    rw [List.getD_eq_getElem?_getD, List.getElem?_eq_getElem (by rw [ol]; omega), Option.getD_some]
    exact others_tg _ (List.getElem_mem _)
  refine ⟨_, tg, runP_of ?_ ?_⟩
  · generalize others.getD (n % 12).toNat .non = X at *
    unfold g_l_other
    unfold others at e1
    have fe : ∀ s, frzE (ret (.dct [])) s = .ok .emp s := fun _ => rfl
    have l0 : lenOk 0 = true := rfl
    have l2 : lenOk 2 = true := rfl
    have l1 : lenOk 1 = true := rfl
    have l12 : lenOk 12 = true := rfl
    unfold p12 at e1
    walk_at "fyh"
    exact ⟨_, rfl⟩
  · exact tg.ncb _
theorem t_single (c : Int) (vh : List Cell) (h : Sm c) : ∃ d, Tg d ∧ F_l_single [.int c] vh = some d := by
  obtain ⟨i, a1⟩ := t_number (c / 8) vh (h.div (by decide))
  obtain ⟨cs, b1, b2, b3⟩ := t_long (c / 8) vh
  obtain ⟨ds, d1, d2, d3⟩ := t_letters (c / 8) vh
  obtain ⟨o, o1, o2⟩ := t_other (c / 8) vh
  by_cases c0 : c % 8 < 3
  · refine ⟨_, .int i, runP_of ?_ rfl⟩
    clear b1 b2 d1 d2
    unfold g_l_single
    walk_at "fxh"
    exact ⟨_, rfl⟩
  · by_cases c1 : c % 8 < 5
    · refine ⟨_, .tx b1 (by omega), runP_of ?_ rfl⟩
      clear b1 b2 d1 d2
      unfold g_l_single
      walk_at "fxh"
      exact ⟨_, rfl⟩
    · by_cases c2 : c % 8 = 5
      · refine ⟨_, .tx d1 (by omega), runP_of ?_ rfl⟩
        clear b1 b2 d1 d2
        unfold g_l_single
        walk_at "fxh"
        exact ⟨_, rfl⟩
      · refine ⟨_, o1, runP_of ?_ (o1.ncb _)⟩
        clear b1 b2 d1 d2
        unfold g_l_single
        walk_at "fxh"
        exact ⟨_, rfl⟩
theorem ris_tg {L : List D} (h : ∀ d ∈ L, Tg d) : ∀ d ∈ (ordPl ((L.filter pln).map plD)).map Pl.d, Tg d := fun d hd => by
  obtain ⟨p, hp, rfl⟩ := List.mem_map.mp hd
  obtain ⟨x, hx, rfl⟩ := List.mem_map.mp ((ord_mem _ _).mp hp)
  obtain ⟨hx, px⟩ := List.mem_filter.mp hx
  rw [plD_d (h x hx) px]
  exact h x hx
theorem r_double (c : Int) (w : D) (N : List D) (vh : List Cell) (hw : Tg w) (hN : ∀ d ∈ N, Tg d) (hl : N.length ≤ 10) : ∃ d, Tg d ∧ ∃ l, r_l_double_1 ⟨[some (.int c), some w, some (.lst N), none, none], vh⟩ = .ok (.rt d) ⟨l, vh⟩ := by
  have e9 := fun vh => t_mix c 9 vh (by decide) (by decide)
  have e10 := fun vh => t_mix c 10 vh (by decide) (by decide)
  obtain ⟨x, hx, sx⟩ := t_single (mix c 10) vh (mix_sm _ _)
  have ct := cut_all (xs := N) (k := 1) (n := 1) rfl
  have lo : lenOk N.length = true := lenOk_of (by omega)
  have l1 : (N.take 1).length ≤ 1 := by rw [List.length_take]; omega
  have lo1 : lenOk (N.take 1).length = true := lenOk_of (by omega)
  have lo2 : lenOk (N.length + (N.take 1).length) = true := lenOk_of (by omega)
  have t1 : ∀ d ∈ N.take 1, Tg d := fun d hd => hN d (List.mem_of_mem_take hd)
  have tN : Tg (.tup N) := .tup hN (by omega)
  have tA : Tg (.tup (N ++ N.take 1)) := .tup (fun d hd => (List.mem_append.mp hd).elim (hN d) (t1 d)) (by rw [List.length_append]; omega)
  have tT : Tg (.tup (N.take 1)) := .tup t1 (by omega)
  unfold r_l_double_1
  generalize mix c 10 = M10 at *
  generalize mix c 9 = M9 at *
  by_cases c0 : M9 % 12 = 0
  · refine ⟨_, .lst (tg2 hw tN) (by simp only [List.length_cons, List.length_nil]; omega), ?_⟩
    clear hN hl l1 t1 tN tA tT hw hx
    walk_at "fxh"
    exact ⟨_, rfl⟩
  by_cases c1 : M9 % 12 = 1
  · refine ⟨_, .tup (tg2 hw (.lst hN (by omega))) (by simp only [List.length_cons, List.length_nil]; omega), ?_⟩
    clear hN hl l1 t1 tN tA tT hw hx
    walk_at "fxh"
    exact ⟨_, rfl⟩
  by_cases c2 : M9 % 12 = 2
  · refine ⟨_, .tup (tg3 hw tN hw) (by simp only [List.length_cons, List.length_nil]; omega), ?_⟩
    clear hN hl l1 t1 tN tA tT hw hx
    walk_at "fxh"
    exact ⟨_, rfl⟩
  by_cases c3 : M9 % 12 = 3
  · refine ⟨_, .tup (tg2 hw tT) (by simp only [List.length_cons, List.length_nil]; omega), ?_⟩
    clear hN hl l1 t1 tN tA tT hw hx
    walk_at "fxh"
    exact ⟨_, rfl⟩
  by_cases c4 : M9 % 12 = 4
  · have ad : ∀ s, addM (.lst N) (.lst (N.take 1)) s = .ok (.lst (N ++ N.take 1)) s := fun s => by
      exact x_catL lo2
    refine ⟨_, .tup (tg2 hw tA) (by simp only [List.length_cons, List.length_nil]; omega), ?_⟩
    clear hN hl l1 t1 tN tA tT hw hx
    walk_at "fxh"
    exact ⟨_, rfl⟩
  by_cases c5 : M9 % 12 = 5
  · refine ⟨_, .tup (tg2 hw hx) (by simp only [List.length_cons, List.length_nil]; omega), ?_⟩
    clear hN hl l1 t1 tN tA tT hw hx
    walk_at "fxh"
    exact ⟨_, rfl⟩
  by_cases c6 : M9 % 12 < 8
  · refine ⟨_, .tup (tg2 (.int 5) tN) (by simp only [List.length_cons, List.length_nil]; omega), ?_⟩
    clear hN hl l1 t1 tN tA tT hw hx
    walk_at "fxh"
    exact ⟨_, rfl⟩
  · refine ⟨_, .tup (tg2 hw tN) (by simp only [List.length_cons, List.length_nil]; omega), ?_⟩
    clear hN hl l1 t1 tN tA tT hw hx
    walk_at "fxh"
    exact ⟨_, rfl⟩
theorem t_double (c : Int) (vh : List Cell) : ∃ d, Tg d ∧ F_l_double [.int c] vh = some d := by
  have e1 := fun vh => t_mix c 1 vh (by decide) (by decide)
  have e7 := fun vh => t_mix c 7 vh (by decide) (by decide)
  have e8 := fun vh => t_mix c 8 vh (by decide) (by decide)
  obtain ⟨w, hw, sw⟩ := t_single (mix c 1) vh (mix_sm _ _)
  have sg := fun k : Nat => t_single (mix c (2 + (0 + (k : Int)))) vh (mix_sm _ _)
  have : ∃ g : Nat → D, ∀ k, Tg (g k) ∧ F_l_single [.int (mix c (2 + (0 + (k : Int))))] vh = some (g k) := ⟨fun k => (sg k).choose, fun k => (sg k).choose_spec⟩
  obtain ⟨g, hg⟩ := this
  have m7 := mix_in c 7
  obtain ⟨y, hy⟩ := Int.eq_ofNat_of_zero_le (show 0 ≤ mix c 7 % 6 by omega)
  have ob : okB (y : Int) = true := okB_of (by omega) (by omega)
  have k1 : c_l_double_1 ⟨[some (.int c), some w, none, none, none], vh⟩ = .ok (.lst ((List.range y).map g)) ⟨[some (.int c), some w, none, none, none], vh⟩ := by
    have := lc_pure (ok := fun _ => True) (l := [some (.int c), some w, none, none, none]) (vh := vh) (i := 3) (c := yesM) (e := (bnd (consM (bnd (consM (getL 0) (consM (bin addM (ret (.int 2)) (getL 3)) (ret []))) (callP 2 F_l_mix)) (ret [])) (callP 1 F_l_single))) (f := (bnd (consM (bin modM (bnd (consM (getL 0) (consM (ret (.int 7)) (ret []))) (callP 2 F_l_mix)) (ret (.int 6))) (ret [])) ran1I)) (List.range y) (fun k => D.int (0 + (k : Int))) g (fun _ => true) (by
      have tn : (y : Int).toNat = y := Int.toNat_natCast y
      clear m7 sg hg
      walk_at "fxh"
      rfl) (fun _ => trivial) (by rw [List.length_range]; omega) (fun _ _ => rfl) (fun k hk _ => by
      have hk := List.mem_range.mp hk
      have mk := t_mix c (2 + (0 + (k : Int))) vh (by omega) (by omega)
      have gk := (hg k).2
      clear m7 hk sg hg
      generalize (0 : Int) + (k : Int) = K at *
      generalize g k = G at *
      walk_at "fxh")
    rw [List.filter_eq_self.mpr (fun _ _ => rfl)] at this
    exact this
  have hL : ∀ d ∈ (List.range y).map g, Tg d := fun d hd => by
    obtain ⟨k, _, rfl⟩ := List.mem_map.mp hd
    exact (hg k).1
  have lL : ((List.range y).map g).length ≤ 5 := by rw [List.length_map, List.length_range]; omega
  clear hy ob m7 hg sg
  generalize (List.range y).map g = L at *
  by_cases c8 : mix c 8 % 4 > 0
  · have rs := t_ris hL (by omega) vh
    have r1 := ord_len ((L.filter pln).map plD)
    have r2 := List.length_filter_le pln L
    rw [List.length_map] at r1
    obtain ⟨d, hd, l, hr⟩ := r_double c w _ vh hw (ris_tg hL) (by rw [List.length_map]; omega)
    refine ⟨d, hd, runP_of ?_ (hd.ncb _)⟩
    generalize (ordPl ((L.filter pln).map plD)).map Pl.d = N at *
    clear r1 r2 hd hw hL lL e7
    unfold g_l_double
    walk_at "fxh"
    exact ⟨_, rfl⟩
  · obtain ⟨d, hd, l, hr⟩ := r_double c w L vh hw hL (by omega)
    refine ⟨d, hd, runP_of ?_ (hd.ncb _)⟩
    clear hd hw hL lL e7
    unfold g_l_double
    walk_at "fxh"
    exact ⟨_, rfl⟩
/-! the law -/
theorem lt_of {α : Type} {l : List α} {i : Nat} {x : α} (h : l[i]? = some x) : i < l.length := (List.getElem?_eq_some_iff.mp h).1
def stT (A : D) (x2 x3 x4 : Option D) (ds : List D) : Fx.S := ⟨[some A, some (.cell 0), x2, x3, x4], [.lst ds]⟩
theorem turn1 (A : D) (x2 : Option D) (x : Int) (ds : List D) (h : ∀ d ∈ ds, Tg d) (hl : ds.length ≤ 100) : ∃ es, (∀ d ∈ es, Tg d) ∧ es.length = ds.length + 1 ∧ b_law_1 (stT A x2 (some (.int x)) none ds) = .ok .nx (stT A x2 (some (.int x)) none es) := by
  obtain ⟨y, hy⟩ := Int.eq_ofNat_of_zero_le (show 0 ≤ x / 1000 % 61 by omega)
  have ob : okB (y : Int) = true := okB_of (by omega) (by omega)
  have k1 : c_law_2 ⟨[some A, some (.cell 0), x2, some (.int x), none], [.lst ds]⟩ = .ok (.lst ((List.range y).map fun k : Nat => D.int (x % 1000 + (0 + (k : Int))))) ⟨[some A, some (.cell 0), x2, some (.int x), none], [.lst ds]⟩ := by
    have := lc_pure (ok := fun _ => True) (l := [some A, some (.cell 0), x2, some (.int x), none]) (vh := [.lst ds]) (i := 2) (c := yesM) (e := (bin addM (bin modM (getL 3) (ret (.int 1000))) (getL 2))) (f := (bnd (consM (bin modM (bin divM (getL 3) (ret (.int 1000))) (ret (.int 61))) (ret [])) ran1I)) (List.range y) (fun k => D.int (0 + (k : Int))) (fun k : Nat => D.int (x % 1000 + (0 + (k : Int)))) (fun _ => true) (by
      have tn : (y : Int).toNat = y := Int.toNat_natCast y
      clear h hl
      walk_at "fxh"
      rfl) (fun _ => trivial) (by rw [List.length_range]; omega) (fun _ _ => rfl) (fun k hk _ => by
      clear hk h hl hy ob
      generalize (0 : Int) + (k : Int) = K at *
      walk_at "fxh")
    rw [List.filter_eq_self.mpr (fun _ _ => rfl)] at this
    exact this
  have tg : Tg (.tup ((List.range y).map fun k : Nat => D.int (x % 1000 + (0 + (k : Int))))) := .tup (fun d hd => by
    obtain ⟨k, _, rfl⟩ := List.mem_map.mp hd
    exact .int _) (by rw [List.length_map, List.length_range]; omega)
  have lo : lenOk ((List.range y).map fun k : Nat => D.int (x % 1000 + (0 + (k : Int)))).length = true := by rw [List.length_map, List.length_range]; exact lenOk_of (by omega)
  clear hy ob
  generalize (List.range y).map (fun k : Nat => D.int (x % 1000 + (0 + (k : Int)))) = L at *
  have ap : ∀ l, appM (.cell 0) [.tup [.non, .tup L]] ⟨l, [.lst ds]⟩ = .ok .non ⟨l, [.lst (ds ++ [.tup [.non, .tup L]])]⟩ := fun l => by
    have := x_appL (vh := []) (ds := ds) (e := .tup [.non, .tup L]) (l := l) (by omega)
    exact this
  refine ⟨ds ++ [.tup [.non, .tup L]], fun d hd => ?_, by rw [List.length_append]; rfl, ?_⟩
  · rcases List.mem_append.mp hd with hd | hd
    · exact h d hd
    · rw [List.mem_singleton.mp hd]
      exact .tup (tg2 .non tg) (by simp only [List.length_cons, List.length_nil]; omega)
  · have tu : ∀ s, tupleM [.lst L] s = .ok (.tup L) s := fun _ => rfl
    have l2 : lenOk 2 = true := rfl
    clear h hl tg
    unfold b_law_1 stT
    walk_at "fxh"
theorem turn2 (A : D) (x2 : Option D) (x : Int) (hx : Sm x) (ds : List D) (h : ∀ d ∈ ds, Tg d) (hl : ds.length ≤ 100) : ∃ es, (∀ d ∈ es, Tg d) ∧ es.length = ds.length + 1 ∧ b_law_2 (stT A x2 (some (.int x)) none ds) = .ok .nx (stT A x2 (some (.int x)) none es) := by
  obtain ⟨d1, h1, e1⟩ := t_double (x / 3) [.lst ds]
  obtain ⟨d2, h2, e2⟩ := t_single (x / 3) [.lst ds] (hx.div (by decide))
  have ap : ∀ l z, appM (.cell 0) [z] ⟨l, [.lst ds]⟩ = .ok .non ⟨l, [.lst (ds ++ [z])]⟩ := fun l z => by
    have := x_appL (vh := []) (ds := ds) (e := z) (l := l) (by omega)
    exact this
  have on : ∀ {z : D}, Tg z → ∀ d ∈ ds ++ [z], Tg d := fun hz d hd => by
    rcases List.mem_append.mp hd with hd | hd
    · exact h d hd
    · rw [List.mem_singleton.mp hd]
      exact hz
  by_cases c : x % 3 = 0
  · refine ⟨ds ++ [d1], on h1, by rw [List.length_append]; rfl, ?_⟩
    clear h hl h1 h2 on hx
    unfold b_law_2 stT
    walk_at "fxh"
  · refine ⟨ds ++ [d2], on h2, by rw [List.length_append]; rfl, ?_⟩
    clear h hl h1 h2 on hx
    unfold b_law_2 stT
    walk_at "fxh"
theorem turn3 (A : D) (x2 x3 : Option D) (d : D) (hd : Tg d) (ds : List D) : b_law_3 (stT A x2 x3 (some d) ds) = .ok .nx (stT A x2 x3 (some d) ds) := by
  have a := t_asked hd [.lst ds]
  clear hd
  unfold b_law_3 stT
  walk_at "fxh"
theorem law_true (ns : List Int) (hlen : ns.length ≤ 63) (hbits : ∀ z ∈ ns, Builtin.Int.intBits z ≤ 1048576) : F_law [.lst (ns.map D.int)] [] = some (.bl true) := by
  obtain ⟨A, hA⟩ : ∃ A, A = D.lst (ns.map D.int) := ⟨_, rfl⟩
  have og := fun k : Nat => t_other (0 + (k : Int)) []
  have : ∃ g : Nat → D, ∀ k : Nat, Tg (g k) ∧ F_l_other [.int (0 + (k : Int))] [] = some (g k) := ⟨fun k => (og k).choose, fun k => (og k).choose_spec⟩
  obtain ⟨g, hg⟩ := this
  have k1 : c_law_1 ⟨[some A, none, none, none, none], []⟩ = .ok (.lst ((List.range 12).map g)) ⟨[some A, none, none, none, none], []⟩ := by
    have := lc_pure (ok := fun _ => True) (l := [some A, none, none, none, none]) (vh := []) (i := 2) (c := yesM) (e := (bnd (consM (getL 2) (ret [])) (callP 1 F_l_other))) (f := (bnd (consM (ret (.int 12)) (ret [])) ran1I)) (List.range 12) (fun k => D.int (0 + (k : Int))) g (fun _ => true) (by
      clear hg og
      walk_at "fxh"
      rfl) (fun _ => trivial) (by decide) (fun _ _ => rfl) (fun k hk _ => by
      have gk := (hg k).2
      clear hk hg og
      generalize (0 : Int) + (k : Int) = K at *
      generalize g k = G at *
      walk_at "fxh")
    rw [List.filter_eq_self.mpr (fun _ _ => rfl)] at this
    exact this
  have tL : ∀ d ∈ (List.range 12).map g, Tg d := fun d hd => by
    obtain ⟨k, _, rfl⟩ := List.mem_map.mp hd
    exact (hg k).1
  have lL : ((List.range 12).map g).length = 12 := by rw [List.length_map, List.length_range]
  clear hg og
  generalize (List.range 12).map g = L0 at *
  obtain ⟨s1, lp1, ds1, x3, h1, l1, rfl⟩ := loopM_all (ok := fun _ => True) (t := setL 3) (b := b_law_1)
    (fun i s => ∃ ds x3, (∀ d ∈ ds, Tg d) ∧ ds.length = 12 + i ∧ s = stT A none x3 none ds) ((ns.take 3).map D.int) (fun _ _ _ => trivial)
    (fun i d s hi ⟨ds, x3, h, hl, hs⟩ => by
      have hi2 := lt_of hi
      rw [List.length_map, List.length_take] at hi2
      rw [List.getElem?_map] at hi
      obtain ⟨x, _, rfl⟩ := Option.map_eq_some_iff.mp hi
      obtain ⟨es, he, le, t⟩ := turn1 A none x ds h (by omega)
      subst hs
      exact ⟨_, rfl, _, .inl t, es, _, he, by omega, rfl⟩) 0 (stT A none none none L0) (Nat.zero_le _) ⟨L0, none, tL, by omega, rfl⟩
  rw [List.length_map, List.length_take] at l1
  obtain ⟨s2, lp2, ds2, x4, h2, l2, rfl⟩ := loopM_all (ok := fun _ => True) (t := setL 3) (b := b_law_2)
    (fun i s => ∃ ds x3, (∀ d ∈ ds, Tg d) ∧ ds.length = ds1.length + i ∧ s = stT A none x3 none ds) ((ns.take 40).map D.int) (fun _ _ _ => trivial)
    (fun i d s hi ⟨ds, x3, h, hl, hs⟩ => by
      have hi2 := lt_of hi
      rw [List.length_map, List.length_take] at hi2
      rw [List.getElem?_map] at hi
      obtain ⟨x, hx, rfl⟩ := Option.map_eq_some_iff.mp hi
      have sx : Sm x := Sm.of_bits (hbits x (List.mem_of_mem_take (List.mem_of_getElem? hx)))
      obtain ⟨es, he, le, t⟩ := turn2 A none x sx ds h (by omega)
      subst hs
      exact ⟨_, rfl, _, .inl t, es, _, he, by omega, rfl⟩) 0 (stT A none x3 none ds1) (Nat.zero_le _) ⟨ds1, x3, h1, by omega, rfl⟩
  obtain ⟨s3, lp3, x5, rfl⟩ := loopM_all (ok := fun s' => itemsOf s' (.cell 0) = some ds2) (t := setL 4) (b := b_law_3)
    (fun i s => ∃ x5, s = stT A none x4 x5 ds2) ds2 (fun i s ⟨_, hs⟩ => by rw [hs]; rfl)
    (fun i d s hi ⟨x5, hs⟩ => by
      subst hs
      exact ⟨_, rfl, _, .inl (turn3 A none x4 d (h2 d (List.mem_of_getElem? hi)) ds2), _, rfl⟩) 0 (stT A none x4 none ds2) (Nat.zero_le _) ⟨none, rfl⟩
  rw [List.drop_zero] at lp1 lp2 lp3
  have c3 := cut_all (xs := ns.map D.int) (k := 3) (n := 3) rfl
  have c40 := cut_all (xs := ns.map D.int) (k := 40) (n := 40) rfl
  rw [← List.map_take] at c3 c40
  have i3 : ∀ s', itemsOf s' (.lst ((ns.take 3).map D.int)) = some ((ns.take 3).map D.int) := fun _ => rfl
  have i40 : ∀ s', itemsOf s' (.lst ((ns.take 40).map D.int)) = some ((ns.take 40).map D.int) := fun _ => rfl
  unfold stT at lp1 lp2 lp3
  refine runP_more ⟨[some A, some (.cell 0), none, x4, x5], [.lst ds2], ?_⟩ rfl
  clear tL lL h1 h2 l1 l2 hbits hlen
  unfold g_law r_law_2 r_law_1
  rw [hA] at *
  walk_at "fxh"
end My

/-! ### the end -/
namespace Wktwigtable_k01_kinds
open PySem PySem.Spec PyProof.Rows L2 Fx
theorem all_mk {K : PySem.W.Frag} {h : Heap} {mg : Str → Option Value} (X : K.In h) (G : h.Ns mainGlobals mg)
    {f0 oc0 kV0 dc0 pm0 cd0 ct0} {od0 an0 : Option Addr} {sl0 : Array (Option Value)} (a0 : PySem.W.nsIn K mainGlobals "is_whole" = some (some (.ref f0))) (l0 : K.lookup f0 = some ⟨oc0, od0, .func (PySem.W.fnOf "is_whole" "is_whole" (defArgs s_is_whole) (defBody s_is_whole) (defScope s_is_whole) .none kV0 dc0 pm0 an0 cd0 ct0), sl0⟩) (c0 : PySem.W.codeIn K cd0 "is_whole" = true) (k0 : PySem.W.keepIn K (.ref f0) = true)
    {f1 oc1 kV1 dc1 pm1 cd1 ct1} {od1 an1 : Option Addr} {sl1 : Array (Option Value)} (a1 : PySem.W.nsIn K mainGlobals "is_text" = some (some (.ref f1))) (l1 : K.lookup f1 = some ⟨oc1, od1, .func (PySem.W.fnOf "is_text" "is_text" (defArgs s_is_text) (defBody s_is_text) (defScope s_is_text) .none kV1 dc1 pm1 an1 cd1 ct1), sl1⟩) (c1 : PySem.W.codeIn K cd1 "is_text" = true) (k1 : PySem.W.keepIn K (.ref f1) = true)
    {f2 oc2 kV2 dc2 pm2 cd2 ct2} {od2 an2 : Option Addr} {sl2 : Array (Option Value)} (a2 : PySem.W.nsIn K mainGlobals "is_number" = some (some (.ref f2))) (l2 : K.lookup f2 = some ⟨oc2, od2, .func (PySem.W.fnOf "is_number" "is_number" (defArgs s_is_number) (defBody s_is_number) (defScope s_is_number) .none kV2 dc2 pm2 an2 cd2 ct2), sl2⟩) (c2 : PySem.W.codeIn K cd2 "is_number" = true) (k2 : PySem.W.keepIn K (.ref f2) = true)
    {f3 oc3 kV3 dc3 pm3 cd3 ct3} {od3 an3 : Option Addr} {sl3 : Array (Option Value)} (a3 : PySem.W.nsIn K mainGlobals "is_key" = some (some (.ref f3))) (l3 : K.lookup f3 = some ⟨oc3, od3, .func (PySem.W.fnOf "is_key" "is_key" (defArgs s_is_key) (defBody s_is_key) (defScope s_is_key) .none kV3 dc3 pm3 an3 cd3 ct3), sl3⟩) (c3 : PySem.W.codeIn K cd3 "is_key" = true) (k3 : PySem.W.keepIn K (.ref f3) = true)
    {f4 oc4 kV4 dc4 pm4 cd4 ct4} {od4 an4 : Option Addr} {sl4 : Array (Option Value)} (a4 : PySem.W.nsIn K mainGlobals "is_plain" = some (some (.ref f4))) (l4 : K.lookup f4 = some ⟨oc4, od4, .func (PySem.W.fnOf "is_plain" "is_plain" (defArgs s_is_plain) (defBody s_is_plain) (defScope s_is_plain) .none kV4 dc4 pm4 an4 cd4 ct4), sl4⟩) (c4 : PySem.W.codeIn K cd4 "is_plain" = true) (k4 : PySem.W.keepIn K (.ref f4) = true)
    {f5 oc5 kV5 dc5 pm5 cd5 ct5} {od5 an5 : Option Addr} {sl5 : Array (Option Value)} (a5 : PySem.W.nsIn K mainGlobals "before" = some (some (.ref f5))) (l5 : K.lookup f5 = some ⟨oc5, od5, .func (PySem.W.fnOf "before" "before" (defArgs s_before) (defBody s_before) (defScope s_before) .none kV5 dc5 pm5 an5 cd5 ct5), sl5⟩) (c5 : PySem.W.codeIn K cd5 "before" = true) (k5 : PySem.W.keepIn K (.ref f5) = true)
    {f6 oc6 kV6 dc6 pm6 cd6 ct6} {od6 an6 : Option Addr} {sl6 : Array (Option Value)} (a6 : PySem.W.nsIn K mainGlobals "is_clash" = some (some (.ref f6))) (l6 : K.lookup f6 = some ⟨oc6, od6, .func (PySem.W.fnOf "is_clash" "is_clash" (defArgs s_is_clash) (defBody s_is_clash) (defScope s_is_clash) .none kV6 dc6 pm6 an6 cd6 ct6), sl6⟩) (c6 : PySem.W.codeIn K cd6 "is_clash" = true) (k6 : PySem.W.keepIn K (.ref f6) = true)
    {f7 oc7 kV7 dc7 pm7 cd7 ct7} {od7 an7 : Option Addr} {sl7 : Array (Option Value)} (a7 : PySem.W.nsIn K mainGlobals "is_value" = some (some (.ref f7))) (l7 : K.lookup f7 = some ⟨oc7, od7, .func (PySem.W.fnOf "is_value" "is_value" (defArgs s_is_value) (defBody s_is_value) (defScope s_is_value) .none kV7 dc7 pm7 an7 cd7 ct7), sl7⟩) (c7 : PySem.W.codeIn K cd7 "is_value" = true) (k7 : PySem.W.keepIn K (.ref f7) = true)
    {f8 oc8 kV8 dc8 pm8 cd8 ct8} {od8 an8 : Option Addr} {sl8 : Array (Option Value)} (a8 : PySem.W.nsIn K mainGlobals "is_word" = some (some (.ref f8))) (l8 : K.lookup f8 = some ⟨oc8, od8, .func (PySem.W.fnOf "is_word" "is_word" (defArgs s_is_word) (defBody s_is_word) (defScope s_is_word) .none kV8 dc8 pm8 an8 cd8 ct8), sl8⟩) (c8 : PySem.W.codeIn K cd8 "is_word" = true) (k8 : PySem.W.keepIn K (.ref f8) = true)
    {f9 oc9 kV9 dc9 pm9 cd9 ct9} {od9 an9 : Option Addr} {sl9 : Array (Option Value)} (a9 : PySem.W.nsIn K mainGlobals "_law_mix" = some (some (.ref f9))) (l9 : K.lookup f9 = some ⟨oc9, od9, .func (PySem.W.fnOf "_law_mix" "_law_mix" (defArgs s_l_mix) (defBody s_l_mix) (defScope s_l_mix) .none kV9 dc9 pm9 an9 cd9 ct9), sl9⟩) (c9 : PySem.W.codeIn K cd9 "_law_mix" = true) (k9 : PySem.W.keepIn K (.ref f9) = true)
    {f10 oc10 kV10 dc10 pm10 cd10 ct10} {od10 an10 : Option Addr} {sl10 : Array (Option Value)} (a10 : PySem.W.nsIn K mainGlobals "_law_sign" = some (some (.ref f10))) (l10 : K.lookup f10 = some ⟨oc10, od10, .func (PySem.W.fnOf "_law_sign" "_law_sign" (defArgs s_l_sign) (defBody s_l_sign) (defScope s_l_sign) .none kV10 dc10 pm10 an10 cd10 ct10), sl10⟩) (c10 : PySem.W.codeIn K cd10 "_law_sign" = true) (k10 : PySem.W.keepIn K (.ref f10) = true)
    {f11 oc11 kV11 dc11 pm11 cd11 ct11} {od11 an11 : Option Addr} {sl11 : Array (Option Value)} (a11 : PySem.W.nsIn K mainGlobals "_law_number" = some (some (.ref f11))) (l11 : K.lookup f11 = some ⟨oc11, od11, .func (PySem.W.fnOf "_law_number" "_law_number" (defArgs s_l_number) (defBody s_l_number) (defScope s_l_number) .none kV11 dc11 pm11 an11 cd11 ct11), sl11⟩) (c11 : PySem.W.codeIn K cd11 "_law_number" = true) (k11 : PySem.W.keepIn K (.ref f11) = true)
    {f12 oc12 kV12 dc12 pm12 cd12 ct12} {od12 an12 : Option Addr} {sl12 : Array (Option Value)} (a12 : PySem.W.nsIn K mainGlobals "_law_spoiled" = some (some (.ref f12))) (l12 : K.lookup f12 = some ⟨oc12, od12, .func (PySem.W.fnOf "_law_spoiled" "_law_spoiled" (defArgs s_l_spoiled) (defBody s_l_spoiled) (defScope s_l_spoiled) .none kV12 dc12 pm12 an12 cd12 ct12), sl12⟩) (c12 : PySem.W.codeIn K cd12 "_law_spoiled" = true) (k12 : PySem.W.keepIn K (.ref f12) = true)
    {f13 oc13 kV13 dc13 pm13 cd13 ct13} {od13 an13 : Option Addr} {sl13 : Array (Option Value)} (a13 : PySem.W.nsIn K mainGlobals "_law_long" = some (some (.ref f13))) (l13 : K.lookup f13 = some ⟨oc13, od13, .func (PySem.W.fnOf "_law_long" "_law_long" (defArgs s_l_long) (defBody s_l_long) (defScope s_l_long) .none kV13 dc13 pm13 an13 cd13 ct13), sl13⟩) (c13 : PySem.W.codeIn K cd13 "_law_long" = true) (k13 : PySem.W.keepIn K (.ref f13) = true)
    {f14 oc14 kV14 dc14 pm14 cd14 ct14} {od14 an14 : Option Addr} {sl14 : Array (Option Value)} (a14 : PySem.W.nsIn K mainGlobals "_law_letters" = some (some (.ref f14))) (l14 : K.lookup f14 = some ⟨oc14, od14, .func (PySem.W.fnOf "_law_letters" "_law_letters" (defArgs s_l_letters) (defBody s_l_letters) (defScope s_l_letters) .none kV14 dc14 pm14 an14 cd14 ct14), sl14⟩) (c14 : PySem.W.codeIn K cd14 "_law_letters" = true) (k14 : PySem.W.keepIn K (.ref f14) = true)
    {f15 oc15 kV15 dc15 pm15 cd15 ct15} {od15 an15 : Option Addr} {sl15 : Array (Option Value)} (a15 : PySem.W.nsIn K mainGlobals "_law_other" = some (some (.ref f15))) (l15 : K.lookup f15 = some ⟨oc15, od15, .func (PySem.W.fnOf "_law_other" "_law_other" (defArgs s_l_other) (defBody s_l_other) (defScope s_l_other) .none kV15 dc15 pm15 an15 cd15 ct15), sl15⟩) (c15 : PySem.W.codeIn K cd15 "_law_other" = true) (k15 : PySem.W.keepIn K (.ref f15) = true)
    {f16 oc16 kV16 dc16 pm16 cd16 ct16} {od16 an16 : Option Addr} {sl16 : Array (Option Value)} (a16 : PySem.W.nsIn K mainGlobals "_law_single" = some (some (.ref f16))) (l16 : K.lookup f16 = some ⟨oc16, od16, .func (PySem.W.fnOf "_law_single" "_law_single" (defArgs s_l_single) (defBody s_l_single) (defScope s_l_single) .none kV16 dc16 pm16 an16 cd16 ct16), sl16⟩) (c16 : PySem.W.codeIn K cd16 "_law_single" = true) (k16 : PySem.W.keepIn K (.ref f16) = true)
    {f17 oc17 kV17 dc17 pm17 cd17 ct17} {od17 an17 : Option Addr} {sl17 : Array (Option Value)} (a17 : PySem.W.nsIn K mainGlobals "_law_whole" = some (some (.ref f17))) (l17 : K.lookup f17 = some ⟨oc17, od17, .func (PySem.W.fnOf "_law_whole" "_law_whole" (defArgs s_l_whole) (defBody s_l_whole) (defScope s_l_whole) .none kV17 dc17 pm17 an17 cd17 ct17), sl17⟩) (c17 : PySem.W.codeIn K cd17 "_law_whole" = true) (k17 : PySem.W.keepIn K (.ref f17) = true)
    {f18 oc18 kV18 dc18 pm18 cd18 ct18} {od18 an18 : Option Addr} {sl18 : Array (Option Value)} (a18 : PySem.W.nsIn K mainGlobals "_law_plain" = some (some (.ref f18))) (l18 : K.lookup f18 = some ⟨oc18, od18, .func (PySem.W.fnOf "_law_plain" "_law_plain" (defArgs s_l_plain) (defBody s_l_plain) (defScope s_l_plain) .none kV18 dc18 pm18 an18 cd18 ct18), sl18⟩) (c18 : PySem.W.codeIn K cd18 "_law_plain" = true) (k18 : PySem.W.keepIn K (.ref f18) = true)
    {f19 oc19 kV19 dc19 pm19 cd19 ct19} {od19 an19 : Option Addr} {sl19 : Array (Option Value)} (a19 : PySem.W.nsIn K mainGlobals "_law_rank" = some (some (.ref f19))) (l19 : K.lookup f19 = some ⟨oc19, od19, .func (PySem.W.fnOf "_law_rank" "_law_rank" (defArgs s_l_rank) (defBody s_l_rank) (defScope s_l_rank) .none kV19 dc19 pm19 an19 cd19 ct19), sl19⟩) (c19 : PySem.W.codeIn K cd19 "_law_rank" = true) (k19 : PySem.W.keepIn K (.ref f19) = true)
    {f20 oc20 kV20 dc20 pm20 cd20 ct20} {od20 an20 : Option Addr} {sl20 : Array (Option Value)} (a20 : PySem.W.nsIn K mainGlobals "_law_rising" = some (some (.ref f20))) (l20 : K.lookup f20 = some ⟨oc20, od20, .func (PySem.W.fnOf "_law_rising" "_law_rising" (defArgs s_l_rising) (defBody s_l_rising) (defScope s_l_rising) .none kV20 dc20 pm20 an20 cd20 ct20), sl20⟩) (c20 : PySem.W.codeIn K cd20 "_law_rising" = true) (k20 : PySem.W.keepIn K (.ref f20) = true)
    {f21 oc21 kV21 dc21 pm21 cd21 ct21} {od21 an21 : Option Addr} {sl21 : Array (Option Value)} (a21 : PySem.W.nsIn K mainGlobals "_law_double" = some (some (.ref f21))) (l21 : K.lookup f21 = some ⟨oc21, od21, .func (PySem.W.fnOf "_law_double" "_law_double" (defArgs s_l_double) (defBody s_l_double) (defScope s_l_double) .none kV21 dc21 pm21 an21 cd21 ct21), sl21⟩) (c21 : PySem.W.codeIn K cd21 "_law_double" = true) (k21 : PySem.W.keepIn K (.ref f21) = true)
    {f22 oc22 kV22 dc22 pm22 cd22 ct22} {od22 an22 : Option Addr} {sl22 : Array (Option Value)} (a22 : PySem.W.nsIn K mainGlobals "_law_clash" = some (some (.ref f22))) (l22 : K.lookup f22 = some ⟨oc22, od22, .func (PySem.W.fnOf "_law_clash" "_law_clash" (defArgs s_l_clash) (defBody s_l_clash) (defScope s_l_clash) .none kV22 dc22 pm22 an22 cd22 ct22), sl22⟩) (c22 : PySem.W.codeIn K cd22 "_law_clash" = true) (k22 : PySem.W.keepIn K (.ref f22) = true)
    {f23 oc23 kV23 dc23 pm23 cd23 ct23} {od23 an23 : Option Addr} {sl23 : Array (Option Value)} (a23 : PySem.W.nsIn K mainGlobals "_law_word" = some (some (.ref f23))) (l23 : K.lookup f23 = some ⟨oc23, od23, .func (PySem.W.fnOf "_law_word" "_law_word" (defArgs s_l_word) (defBody s_l_word) (defScope s_l_word) .none kV23 dc23 pm23 an23 cd23 ct23), sl23⟩) (c23 : PySem.W.codeIn K cd23 "_law_word" = true) (k23 : PySem.W.keepIn K (.ref f23) = true)
    {f24 oc24 kV24 dc24 pm24 cd24 ct24} {od24 an24 : Option Addr} {sl24 : Array (Option Value)} (a24 : PySem.W.nsIn K mainGlobals "_law_asked" = some (some (.ref f24))) (l24 : K.lookup f24 = some ⟨oc24, od24, .func (PySem.W.fnOf "_law_asked" "_law_asked" (defArgs s_l_asked) (defBody s_l_asked) (defScope s_l_asked) .none kV24 dc24 pm24 an24 cd24 ct24), sl24⟩) (c24 : PySem.W.codeIn K cd24 "_law_asked" = true) (k24 : PySem.W.keepIn K (.ref f24) = true)
    {f25 oc25 kV25 dc25 pm25 cd25 ct25} {od25 an25 : Option Addr} {sl25 : Array (Option Value)} (a25 : PySem.W.nsIn K mainGlobals "law" = some (some (.ref f25))) (l25 : K.lookup f25 = some ⟨oc25, od25, .func (PySem.W.fnOf "law" "law" (defArgs s_law) (defBody s_law) (defScope s_law) .none kV25 dc25 pm25 an25 cd25 ct25), sl25⟩) (c25 : PySem.W.codeIn K cd25 "law" = true) (k25 : PySem.W.keepIn K (.ref f25) = true)
    (z_abs : PySem.W.nsIn K mainGlobals "abs" = some none)
    (z_bool : PySem.W.nsIn K mainGlobals "bool" = some none)
    (z_int : PySem.W.nsIn K mainGlobals "int" = some none)
    (z_isinstance : PySem.W.nsIn K mainGlobals "isinstance" = some none)
    (z_len : PySem.W.nsIn K mainGlobals "len" = some none)
    (z_list : PySem.W.nsIn K mainGlobals "list" = some none)
    (z_ord : PySem.W.nsIn K mainGlobals "ord" = some none)
    (z_range : PySem.W.nsIn K mainGlobals "range" = some none)
    (z_sorted : PySem.W.nsIn K mainGlobals "sorted" = some none)
    (z_str : PySem.W.nsIn K mainGlobals "str" = some none)
    (z_tuple : PySem.W.nsIn K mainGlobals "tuple" = some none)
    (z_zip : PySem.W.nsIn K mainGlobals "zip" = some none)
    {t_BOUND} (z_BOUND : PySem.W.nsIn K mainGlobals "BOUND" = some (some (.int 1000000000000000000000000000000 t_BOUND)))
    {t_LETTERS} (z_LETTERS : PySem.W.nsIn K mainGlobals "LETTERS" = some (some (.str "abcdefghijklmnopqrstuvwxyz" t_LETTERS)))
    {t_LONGEST} (z_LONGEST : PySem.W.nsIn K mainGlobals "LONGEST" = some (some (.int 40 t_LONGEST)))
    : Txt K mg ∧ Top K mg "is_whole" s_is_whole ["thing"] ∧ Top K mg "is_text" s_is_text ["thing"] ∧ Top K mg "is_number" s_is_number ["thing"] ∧ Top K mg "is_key" s_is_key ["thing"] ∧ Top K mg "is_plain" s_is_plain ["thing"] ∧ Top K mg "before" s_before ["one", "other"] ∧ Top K mg "is_clash" s_is_clash ["thing"] ∧ Top K mg "is_value" s_is_value ["thing"] ∧ Top K mg "is_word" s_is_word ["thing"] ∧ Top K mg "_law_mix" s_l_mix ["_law_cell", "_law_k"] ∧ Top K mg "_law_sign" s_l_sign ["_law_number_here"] ∧ Top K mg "_law_number" s_l_number ["_law_cell"] ∧ Top K mg "_law_spoiled" s_l_spoiled ["_law_cell", "_law_some", "_law_odd"] ∧ Top K mg "_law_long" s_l_long ["_law_cell"] ∧ Top K mg "_law_letters" s_l_letters ["_law_cell"] ∧ Top K mg "_law_other" s_l_other ["_law_number_here"] ∧ Top K mg "_law_single" s_l_single ["_law_cell"] ∧ Top K mg "_law_whole" s_l_whole ["_law_thing"] ∧ Top K mg "_law_plain" s_l_plain ["_law_thing"] ∧ Top K mg "_law_rank" s_l_rank ["_law_thing"] ∧ Top K mg "_law_rising" s_l_rising ["_law_things"] ∧ Top K mg "_law_double" s_l_double ["_law_cell"] ∧ Top K mg "_law_clash" s_l_clash ["_law_thing"] ∧ Top K mg "_law_word" s_l_word ["_law_thing"] ∧ Top K mg "_law_asked" s_l_asked ["_law_thing"] ∧ Top K mg "law" s_law ["_law_script"] := by
  refine ⟨⟨PySem.W.mg_none_of X G z_abs, PySem.W.mg_none_of X G z_bool, PySem.W.mg_none_of X G z_int, PySem.W.mg_none_of X G z_isinstance, PySem.W.mg_none_of X G z_len, PySem.W.mg_none_of X G z_list, PySem.W.mg_none_of X G z_ord, PySem.W.mg_none_of X G z_range, PySem.W.mg_none_of X G z_sorted, PySem.W.mg_none_of X G z_str, PySem.W.mg_none_of X G z_tuple, PySem.W.mg_none_of X G z_zip, ⟨_, PySem.W.mg_of X G z_BOUND⟩, ⟨_, PySem.W.mg_of X G z_LETTERS⟩, ⟨_, PySem.W.mg_of X G z_LONGEST⟩⟩, ?_, ?_, ?_, ?_, ?_, ?_, ?_, ?_, ?_, ?_, ?_, ?_, ?_, ?_, ?_, ?_, ?_, ?_, ?_, ?_, ?_, ?_, ?_, ?_, ?_, ?_⟩
  · exact top_mk X G a0 l0 c0 k0 fun _ _ _ _ _ _ us hl => match us, hl with | [_], _ => rfl
  · exact top_mk X G a1 l1 c1 k1 fun _ _ _ _ _ _ us hl => match us, hl with | [_], _ => rfl
  · exact top_mk X G a2 l2 c2 k2 fun _ _ _ _ _ _ us hl => match us, hl with | [_], _ => rfl
  · exact top_mk X G a3 l3 c3 k3 fun _ _ _ _ _ _ us hl => match us, hl with | [_], _ => rfl
  · exact top_mk X G a4 l4 c4 k4 fun _ _ _ _ _ _ us hl => match us, hl with | [_], _ => rfl
  · exact top_mk X G a5 l5 c5 k5 fun _ _ _ _ _ _ us hl => match us, hl with | [_, _], _ => rfl
  · exact top_mk X G a6 l6 c6 k6 fun _ _ _ _ _ _ us hl => match us, hl with | [_], _ => rfl
  · exact top_mk X G a7 l7 c7 k7 fun _ _ _ _ _ _ us hl => match us, hl with | [_], _ => rfl
  · exact top_mk X G a8 l8 c8 k8 fun _ _ _ _ _ _ us hl => match us, hl with | [_], _ => rfl
  · exact top_mk X G a9 l9 c9 k9 fun _ _ _ _ _ _ us hl => match us, hl with | [_, _], _ => rfl
  · exact top_mk X G a10 l10 c10 k10 fun _ _ _ _ _ _ us hl => match us, hl with | [_], _ => rfl
  · exact top_mk X G a11 l11 c11 k11 fun _ _ _ _ _ _ us hl => match us, hl with | [_], _ => rfl
  · exact top_mk X G a12 l12 c12 k12 fun _ _ _ _ _ _ us hl => match us, hl with | [_, _, _], _ => rfl
  · exact top_mk X G a13 l13 c13 k13 fun _ _ _ _ _ _ us hl => match us, hl with | [_], _ => rfl
  · exact top_mk X G a14 l14 c14 k14 fun _ _ _ _ _ _ us hl => match us, hl with | [_], _ => rfl
  · exact top_mk X G a15 l15 c15 k15 fun _ _ _ _ _ _ us hl => match us, hl with | [_], _ => rfl
  · exact top_mk X G a16 l16 c16 k16 fun _ _ _ _ _ _ us hl => match us, hl with | [_], _ => rfl
  · exact top_mk X G a17 l17 c17 k17 fun _ _ _ _ _ _ us hl => match us, hl with | [_], _ => rfl
  · exact top_mk X G a18 l18 c18 k18 fun _ _ _ _ _ _ us hl => match us, hl with | [_], _ => rfl
  · exact top_mk X G a19 l19 c19 k19 fun _ _ _ _ _ _ us hl => match us, hl with | [_], _ => rfl
  · exact top_mk X G a20 l20 c20 k20 fun _ _ _ _ _ _ us hl => match us, hl with | [_], _ => rfl
  · exact top_mk X G a21 l21 c21 k21 fun _ _ _ _ _ _ us hl => match us, hl with | [_], _ => rfl
  · exact top_mk X G a22 l22 c22 k22 fun _ _ _ _ _ _ us hl => match us, hl with | [_], _ => rfl
  · exact top_mk X G a23 l23 c23 k23 fun _ _ _ _ _ _ us hl => match us, hl with | [_], _ => rfl
  · exact top_mk X G a24 l24 c24 k24 fun _ _ _ _ _ _ us hl => match us, hl with | [_], _ => rfl
  · exact top_mk X G a25 l25 c25 k25 fun _ _ _ _ _ _ us hl => match us, hl with | [_], _ => rfl
theorem walk {l : PySem.W.OpenLaw} {q : Program} {loose : List Str} {XP : (Str → Option Value) → Heap → Prop} {YP : World → Heap → Prop} {d : DefRec} {K : Params → PySem.W.Frag} (hn : l.most = some 63) (hdf : d.params.defaults = []) (hd : d.name = "law")
    (hY : ∀ (w : World) (h : Heap), YP w h → (K w.params).In h)
    (F : ∀ (w : World) (mg : Str → Option Value) (h : Heap), (K w.params).In h → h.Ns mainGlobals mg → Txt (K w.params) mg ∧ Top (K w.params) mg "is_whole" s_is_whole ["thing"] ∧ Top (K w.params) mg "is_text" s_is_text ["thing"] ∧ Top (K w.params) mg "is_number" s_is_number ["thing"] ∧ Top (K w.params) mg "is_key" s_is_key ["thing"] ∧ Top (K w.params) mg "is_plain" s_is_plain ["thing"] ∧ Top (K w.params) mg "before" s_before ["one", "other"] ∧ Top (K w.params) mg "is_clash" s_is_clash ["thing"] ∧ Top (K w.params) mg "is_value" s_is_value ["thing"] ∧ Top (K w.params) mg "is_word" s_is_word ["thing"] ∧ Top (K w.params) mg "_law_mix" s_l_mix ["_law_cell", "_law_k"] ∧ Top (K w.params) mg "_law_sign" s_l_sign ["_law_number_here"] ∧ Top (K w.params) mg "_law_number" s_l_number ["_law_cell"] ∧ Top (K w.params) mg "_law_spoiled" s_l_spoiled ["_law_cell", "_law_some", "_law_odd"] ∧ Top (K w.params) mg "_law_long" s_l_long ["_law_cell"] ∧ Top (K w.params) mg "_law_letters" s_l_letters ["_law_cell"] ∧ Top (K w.params) mg "_law_other" s_l_other ["_law_number_here"] ∧ Top (K w.params) mg "_law_single" s_l_single ["_law_cell"] ∧ Top (K w.params) mg "_law_whole" s_l_whole ["_law_thing"] ∧ Top (K w.params) mg "_law_plain" s_l_plain ["_law_thing"] ∧ Top (K w.params) mg "_law_rank" s_l_rank ["_law_thing"] ∧ Top (K w.params) mg "_law_rising" s_l_rising ["_law_things"] ∧ Top (K w.params) mg "_law_double" s_l_double ["_law_cell"] ∧ Top (K w.params) mg "_law_clash" s_l_clash ["_law_thing"] ∧ Top (K w.params) mg "_law_word" s_l_word ["_law_thing"] ∧ Top (K w.params) mg "_law_asked" s_l_asked ["_law_thing"] ∧ Top (K w.params) mg "law" s_law ["_law_script"])
    (hF : ∀ ns : List Int, ns.length ≤ 63 → (∀ z ∈ ns, Builtin.Int.intBits z ≤ 1048576) → F_law [.lst (ns.map D.int)] [] = some (.bl true)) :
    PySem.W.WalkO q loose XP YP l.row.toRowW d [] (fun f vs => PySem.call f vs) := by
  refine law_end (k := 7) (x := "_law_script") hn hdf hd ⟨rfl, by decide, by decide⟩ hY (fun w mg h X G => ?_) hF
  obtain ⟨T, t_is_whole, t_is_text, t_is_number, t_is_key, t_is_plain, t_before, t_is_clash, t_is_value, t_is_word, t_l_mix, t_l_sign, t_l_number, t_l_spoiled, t_l_long, t_l_letters, t_l_other, t_l_single, t_l_whole, t_l_plain, t_l_rank, t_l_rising, t_l_double, t_l_clash, t_l_word, t_l_asked, t_law⟩ := F w mg h X G
  refine ok_law T t_law fun base X0 G0 => ?_
  have c_is_whole : FnP l.prog w (K w.params) mg base "is_whole" 1 1 F_is_whole := ok_is_whole T t_is_whole
  have c_is_text : FnP l.prog w (K w.params) mg base "is_text" 1 1 F_is_text := ok_is_text T t_is_text
  have c_is_number : FnP l.prog w (K w.params) mg base "is_number" 1 2 F_is_number := ok_is_number T t_is_number c_is_whole
  have c_is_key : FnP l.prog w (K w.params) mg base "is_key" 1 3 F_is_key := ok_is_key T t_is_key c_is_text c_is_number
  have c_is_plain : FnP l.prog w (K w.params) mg base "is_plain" 1 3 F_is_plain := ok_is_plain T t_is_plain c_is_text c_is_number
  have c_before : FnP l.prog w (K w.params) mg base "before" 2 1 F_before := ok_before T t_before
  have c_is_clash : FnP l.prog w (K w.params) mg base "is_clash" 1 4 F_is_clash := ok_is_clash T t_is_clash c_is_plain c_before
  have c_is_value : FnP l.prog w (K w.params) mg base "is_value" 1 5 F_is_value := ok_is_value T t_is_value c_is_plain c_is_clash
  have c_is_word : FnP l.prog w (K w.params) mg base "is_word" 1 1 F_is_word := ok_is_word T t_is_word
  have c_l_mix : FnP l.prog w (K w.params) mg base "_law_mix" 2 1 F_l_mix := ok_l_mix T t_l_mix
  have c_l_sign : FnP l.prog w (K w.params) mg base "_law_sign" 1 1 F_l_sign := ok_l_sign T t_l_sign
  have c_l_number : FnP l.prog w (K w.params) mg base "_law_number" 1 1 F_l_number := ok_l_number T t_l_number
  have c_l_spoiled : FnP l.prog w (K w.params) mg base "_law_spoiled" 3 1 F_l_spoiled := ok_l_spoiled T t_l_spoiled
  have c_l_long : FnP l.prog w (K w.params) mg base "_law_long" 1 2 F_l_long := ok_l_long T t_l_long c_l_mix c_l_sign c_l_spoiled
  have c_l_letters : FnP l.prog w (K w.params) mg base "_law_letters" 1 2 F_l_letters := ok_l_letters T t_l_letters c_l_mix c_l_spoiled c_l_sign
  have c_l_other : FnP l.prog w (K w.params) mg base "_law_other" 1 1 F_l_other := ok_l_other T t_l_other
  have c_l_single : FnP l.prog w (K w.params) mg base "_law_single" 1 3 F_l_single := ok_l_single T t_l_single c_l_number c_l_long c_l_letters c_l_other
  have c_l_whole : FnP l.prog w (K w.params) mg base "_law_whole" 1 1 F_l_whole := ok_l_whole T t_l_whole
  have c_l_plain : FnP l.prog w (K w.params) mg base "_law_plain" 1 2 F_l_plain := ok_l_plain T t_l_plain c_l_whole
  have c_l_rank : FnP l.prog w (K w.params) mg base "_law_rank" 1 1 F_l_rank := ok_l_rank T t_l_rank
  have c_l_rising : FnP l.prog w (K w.params) mg base "_law_rising" 1 4 F_l_rising := ok_l_rising T t_l_rising c_l_rank c_l_plain
  have c_l_double : FnP l.prog w (K w.params) mg base "_law_double" 1 5 F_l_double := ok_l_double T t_l_double c_l_single c_l_mix c_l_rising
  have c_l_clash : FnP l.prog w (K w.params) mg base "_law_clash" 1 5 F_l_clash := ok_l_clash T t_l_clash c_l_plain c_l_rising
  have c_l_word : FnP l.prog w (K w.params) mg base "_law_word" 1 1 F_l_word := ok_l_word T t_l_word
  have c_l_asked : FnP l.prog w (K w.params) mg base "_law_asked" 1 6 F_l_asked := ok_l_asked T t_l_asked c_l_plain c_l_clash c_l_whole c_l_word c_is_word c_is_value c_is_clash c_is_plain c_is_key c_is_whole
  exact ⟨c_l_other, c_l_double, c_l_single, c_l_asked, trivial⟩
end Wktwigtable_k01_kinds
open PySem PySem.W PyProof.Rows
set_option maxRecDepth 100000 in
set_option maxHeartbeats 0 in
theorem PySem.Challenge.cw_twigtable_k01_kinds_holds : PySem.Challenge.rw_twigtable_k01_kinds.Holds := by
  w_on; o_law; k_head; (case hw => w_witness2)
  k_fill
  refine Wktwigtable_k01_kinds.walk (l := PySem.Challenge.rw_twigtable_k01_kinds) rfl rfl rfl (fun w h Y => PySem.W.kIn_of Y) ?F My.law_true
  case F =>
    intro w mg h KX G
    refine' Wktwigtable_k01_kinds.all_mk KX G ?a0 ?l0 ?c0 ?k0 ?a1 ?l1 ?c1 ?k1 ?a2 ?l2 ?c2 ?k2 ?a3 ?l3 ?c3 ?k3 ?a4 ?l4 ?c4 ?k4 ?a5 ?l5 ?c5 ?k5 ?a6 ?l6 ?c6 ?k6 ?a7 ?l7 ?c7 ?k7 ?a8 ?l8 ?c8 ?k8 ?a9 ?l9 ?c9 ?k9 ?a10 ?l10 ?c10 ?k10 ?a11 ?l11 ?c11 ?k11 ?a12 ?l12 ?c12 ?k12 ?a13 ?l13 ?c13 ?k13 ?a14 ?l14 ?c14 ?k14 ?a15 ?l15 ?c15 ?k15 ?a16 ?l16 ?c16 ?k16 ?a17 ?l17 ?c17 ?k17 ?a18 ?l18 ?c18 ?k18 ?a19 ?l19 ?c19 ?k19 ?a20 ?l20 ?c20 ?k20 ?a21 ?l21 ?c21 ?k21 ?a22 ?l22 ?c22 ?k22 ?a23 ?l23 ?c23 ?k23 ?a24 ?l24 ?c24 ?k24 ?a25 ?l25 ?c25 ?k25 ?z_abs ?z_bool ?z_int ?z_isinstance ?z_len ?z_list ?z_ord ?z_range ?z_sorted ?z_str ?z_tuple ?z_zip ?z_BOUND ?z_LETTERS ?z_LONGEST
    (case a0 => k_is)
    (case l0 => k_is)
    (case c0 => k_is)
    (case k0 => k_is)
    (case a1 => k_is)
    (case l1 => k_is)
    (case c1 => k_is)
    (case k1 => k_is)
    (case a2 => k_is)
    (case l2 => k_is)
    (case c2 => k_is)
    (case k2 => k_is)
    (case a3 => k_is)
    (case l3 => k_is)
    (case c3 => k_is)
    (case k3 => k_is)
    (case a4 => k_is)
    (case l4 => k_is)
    (case c4 => k_is)
    (case k4 => k_is)
    (case a5 => k_is)
    (case l5 => k_is)
    (case c5 => k_is)
    (case k5 => k_is)
    (case a6 => k_is)
    (case l6 => k_is)
    (case c6 => k_is)
    (case k6 => k_is)
    (case a7 => k_is)
    (case l7 => k_is)
    (case c7 => k_is)
    (case k7 => k_is)
    (case a8 => k_is)
    (case l8 => k_is)
    (case c8 => k_is)
    (case k8 => k_is)
    (case a9 => k_is)
    (case l9 => k_is)
    (case c9 => k_is)
    (case k9 => k_is)
    (case a10 => k_is)
    (case l10 => k_is)
    (case c10 => k_is)
    (case k10 => k_is)
    (case a11 => k_is)
    (case l11 => k_is)
    (case c11 => k_is)
    (case k11 => k_is)
    (case a12 => k_is)
    (case l12 => k_is)
    (case c12 => k_is)
    (case k12 => k_is)
    (case a13 => k_is)
    (case l13 => k_is)
    (case c13 => k_is)
    (case k13 => k_is)
    (case a14 => k_is)
    (case l14 => k_is)
    (case c14 => k_is)
    (case k14 => k_is)
    (case a15 => k_is)
    (case l15 => k_is)
    (case c15 => k_is)
    (case k15 => k_is)
    (case a16 => k_is)
    (case l16 => k_is)
    (case c16 => k_is)
    (case k16 => k_is)
    (case a17 => k_is)
    (case l17 => k_is)
    (case c17 => k_is)
    (case k17 => k_is)
    (case a18 => k_is)
    (case l18 => k_is)
    (case c18 => k_is)
    (case k18 => k_is)
    (case a19 => k_is)
    (case l19 => k_is)
    (case c19 => k_is)
    (case k19 => k_is)
    (case a20 => k_is)
    (case l20 => k_is)
    (case c20 => k_is)
    (case k20 => k_is)
    (case a21 => k_is)
    (case l21 => k_is)
    (case c21 => k_is)
    (case k21 => k_is)
    (case a22 => k_is)
    (case l22 => k_is)
    (case c22 => k_is)
    (case k22 => k_is)
    (case a23 => k_is)
    (case l23 => k_is)
    (case c23 => k_is)
    (case k23 => k_is)
    (case a24 => k_is)
    (case l24 => k_is)
    (case c24 => k_is)
    (case k24 => k_is)
    (case a25 => k_is)
    (case l25 => k_is)
    (case c25 => k_is)
    (case k25 => k_is)
    (case z_abs => k_is)
    (case z_bool => k_is)
    (case z_int => k_is)
    (case z_isinstance => k_is)
    (case z_len => k_is)
    (case z_list => k_is)
    (case z_ord => k_is)
    (case z_range => k_is)
    (case z_sorted => k_is)
    (case z_str => k_is)
    (case z_tuple => k_is)
    (case z_zip => k_is)
    (case z_BOUND => k_is)
    (case z_LETTERS => k_is)
    (case z_LONGEST => k_is)

