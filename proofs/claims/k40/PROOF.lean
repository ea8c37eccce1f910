import PyProof.Rows.All
import Wide.All
import OpenK.AllK
import Wide.FinOn
import HandS.ForMost
import HandS.NoneIn
import HandS.Strs
import HandS.SetKeys
import HandS.Style
import HandS.TupAny
import HandS.TupLen
import HandS.TupMul
import HandS.More
import HandS.Zip
import HandS.IsInst
import HandS.DictComp
import HandS.WrittenGet
import HandS.Text
import HandS.ExcInit
import KE.KSetDisp
import KE.KeyNested
import PyProof.ReprReads
import PyProof.AutoSeq1
import KE.GoesZip
import KE.GoesMore
import HandS.Conv
import HandS.SetFor
import PyProof.Rows.SortShellAny
import HandS.Flow
import OpenK.KTop
import HandS.Property
import HandS.CallLocal
import HandS.FStr
import KE.KDictPairs
import KE.KDictZip
import KE.KDictList
import HandS.Keys
import HandS.Defaults
import HandS.Star
import HandS.WordsExc
import HandS.ExcIs
import HandS.ExcOwn
import HandS.TryMany
import HandS.ExcField
import KE.GoesEnum
import HandS.RaiseMore
import HandS.ExcSuper
import HandS.Exc
import HandS.DeepEq
import HandS.TupSets
import KE.KSortTupG
import KE.KDictCopyH
import PyProof.DictUpdate
import KE.KDictKeyed
import KE.KDictLaws
import HandS.Deep
import HandS.SortInts
import KE.KDictOf
import HandS.Lambda
import HandS.SortKw
import KE.SortData
import KE.SortKeyHeap
import HandS.ClsMeth
import HandS.OwnEq
import PyProof.Conv_bool
import PyProof.StrOps2
import PySem.Challenge.RW_wayson_k40_behind_a_field
set_option Elab.async false
set_option linter.all false
set_option maxHeartbeats 0
set_option maxRecDepth 100000
namespace DL
open PySem L2
def PlO (o : Obj) : Prop := o.cls = .type "tuple" ∧ o.dict = none
def PlT (K : PySem.W.Frag) (H : Hp) (a : Addr) : Prop := (∃ o u, H a = some (.frz o u) ∧ PlO o) ∨ ∃ o, K.lookup a = some o ∧ PlO o
theorem PlT.of {K : PySem.W.Frag} {H : Hp} {p : Addr} {o : Obj} {u : HO} (h : PlO o) : PlT K (L2.upd H p (.frz o u)) p := .inl ⟨o, u, upd_same, h⟩
def NewT (H : Hp) (vs : List V) (Q : VK) : Prop := ∀ p o, H p = none → PlO o → Q (.ref p) (L2.upd H p (.frz o (.tup vs)))
theorem sqt_new {K : PySem.W.Frag} {H : Hp} {p : Addr} {o : Obj} {vs : List V} : SqT K (L2.upd H p (.frz o (.tup vs))) p vs := .inl (.inr ⟨o, upd_same⟩)
section
variable {X : Cx} {pins : List (Addr × Obj)} {σ : St} {H : Hp} {s : Shared}
theorem newT {vs : List V} {us : List Value} {Q : VK} (I : Inv X pins σ H s) (r : Vals vs us) (z : vs.length ≤ sizeLine) (q : NewT H vs Q) :
    ∃ x H', Inv X pins σ H' { s with heap := s.heap.push { cls := .type "tuple", data := .seq us.toArray } } ∧ RelV x (.ref s.heap.objs.size) ∧ Q x H' := by
  let o : Obj := { cls := .type "tuple", data := .seq us.toArray }
  have hg : (s.heap.push o).get? s.heap.objs.size = some o := Heap.get?_push_size _ rfl
  have fr : H s.heap.objs.size = none := I.hok.fresh (Nat.le_refl _)
  have I' := I.laid (t' := s.toks) (o := .frz o (.tup vs)) (h' := s.heap.push o) (fun b ob e => Heap.get?_push_of_some _ e) (Nat.le_refl s.heap.objs.size) ⟨hg, z, us, r, o, hg, rfl, 0, rfl⟩
  exact ⟨.ref s.heap.objs.size, _, I', rfl, q _ o fr ⟨rfl, rfl⟩⟩
end
section
variable {X : Cx} {es : List Expr} {t : TA} {pos : Pos}
def tTupF (t : TA) : TE := fun σ H Q => t σ H fun xs H1 => xs.length ≤ sizeLine ∧ NewT H1 xs Q
theorem pe_tupF {k : Nat} (h : PA X es t) : PE X (.Tuple es k pos) (tTupF t) := by
  refine ⟨fun pins s σ H Q I hq => wpAny_Tuple_spliced (thn (h.run pos pins s σ H _ I hq) ?_)⟩
  rintro us s1 ⟨xs, H1, I1, r, z, q⟩
  exact ⟨r.length ▸ z, newT I1 r z q⟩
theorem call_tupleF : CallR X (.type "tuple") (fun xs H Q => ∃ p ys, xs = [.ref p] ∧ ((SqL X.K H p ys ∧ NewT H ys Q) ∨ (SqT X.K H p ys ∧ Q (.ref p) H))) := by
  intro pins s σ H xs us Q I r ⟨p, ys, ex, h⟩
  subst ex
  obtain ⟨u, rfl, rx⟩ := vals1 r
  cases rx
  rcases h with ⟨hl, q⟩ | ⟨ht, q⟩
  · obtain ⟨its, rv, pl, z⟩ := I.list hl
    have len := rv.length
    refine call_tuple_list pl.isList (fun h' kp => ?_) (by rw [List.size_toArray]; omega)
    exact newT (s := { s with heap := h' }) (I.kept (t' := s.toks) kp) rv z q
  · obtain ⟨_, _, pl, _⟩ := I.tuple ht
    exact call_tuple_same pl ⟨.ref p, H, I, rfl, q⟩
def rCatF (K : PySem.W.Frag) : R2 := fun x y H Q => ∃ a b xs ys, x = .ref a ∧ y = .ref b ∧ SqT K H a xs ∧ SqT K H b ys ∧ xs.length + ys.length ≤ sizeLine ∧
  (xs = [] → Q (.ref b) H) ∧ (xs ≠ [] → ys = [] → Q (.ref a) H) ∧ (xs ≠ [] → ys ≠ [] → NewT H (xs ++ ys) Q)
theorem op_catF : OpR X (binaryOp .Add) (rCatF X.K) := by
  intro pins s σ H x y v u Q I rx ry ⟨a, b, xs, ys, ea, eb, ta, tb, z, q0, q1, q2⟩
  subst ea eb
  obtain ⟨as, ra, pa, _⟩ := I.tuple ta
  obtain ⟨bs, rb, pb, _⟩ := I.tuple tb
  cases rx
  cases ry
  rcases Classical.em (xs = []) with e | e
  · subst e
    cases ra
    exact cat_tup0 pa pb ⟨.ref b, H, I, rfl, q0 rfl⟩
  · have na : as ≠ [] := fun w => e (ra.nil_iff.mp w)
    refine HT.cat_tup pa pb na (fun w => ⟨.ref a, H, I, rfl, q1 e (rb.nil_iff.mp w)⟩) (fun w => ?_) (by have := ra.length; have := rb.length; omega)
    exact newT I (ra.append rb) (by rw [List.length_append]; exact z) (q2 e fun k => w (rb.nil_iff.mpr k))
def rSlF (K : PySem.W.Frag) : V → Option Int → Option Int → Hp → VK → Prop := fun x lo hi H Q => ∃ a xs, x = .ref a ∧ SqT K H a xs ∧
  (HT.sIx xs.length 0 lo = 0 ∧ HT.sIx xs.length xs.length hi = xs.length → Q (.ref a) H) ∧ (¬ (HT.sIx xs.length 0 lo = 0 ∧ HT.sIx xs.length xs.length hi = xs.length) → NewT H (cutV xs lo hi) Q)
theorem sl_tupF : SlR X (rSlF X.K) := by
  intro pins s σ H x v vl vu lo hi sl Q I rx hs pl pu ⟨a, xs, ex, tx, q1, q2⟩
  subst ex
  cases rx
  obtain ⟨its, r, pt, z⟩ := I.tuple tx
  have len : its.toArray.size = xs.length := by have := r.length; rw [List.size_toArray]; omega
  refine ⟨"tuple", _, PyProof.Rows.slot_tuple_getitem.lookup, pt.typeIs, ?_⟩
  rcases Classical.em (HT.sIx xs.length 0 lo = 0 ∧ HT.sIx xs.length xs.length hi = xs.length) with w | w
  · exact getItem_tuple_whole pt hs pl pu (len ▸ w) ⟨.ref a, H, I, rfl, q1 w⟩
  · refine HT.getItem_tuple_cut pt hs pl pu (len ▸ w) ?_ (len ▸ z)
    rw [len]
    exact newT I ((r.drop _).take _) (Nat.le_trans (cutV_length xs lo hi) z) (q2 w)
def rRepF (K : PySem.W.Frag) : R2 := fun x y H Q => ∃ l k xs, x = .ref l ∧ y = .int k ∧ SqT K H l xs ∧ xs ≠ [] ∧ 2 ≤ k ∧ k ≤ 5000 ∧ xs.length ≤ 1000 ∧ NewT H (List.replicate k.toNat xs).flatten Q
theorem op_repF : OpR X (binaryOp .Mult) (rRepF X.K) := by
  intro pins s σ H x y v u Q I rx ry ⟨l, k, xs, ex, ey, tx, ne, k1, k2, z, q⟩
  subst ex ey
  cases rx
  obtain ⟨tk, rfl⟩ := ry
  obtain ⟨its, r, ⟨⟨cls, dd, data, sl⟩, ho, hc, n, hd⟩, _⟩ := I.tuple tx
  simp only at hc hd
  subst hc hd
  have len := r.length
  have em : its.toArray.isEmpty = false := by
    rcases its with _ | ⟨a, b⟩
    · exact absurd (List.eq_nil_of_length_eq_zero (by simpa using len)) ne
    · rfl
  have sz : its.toArray.size = xs.length := by rw [List.size_toArray]; omega
  have mm : ((its.toArray.size : Nat) : Int) * k ≤ 5000000 := by
    have : ((xs.length : Nat) : Int) * k ≤ 1000 * k := Int.mul_le_mul_of_nonneg_right (by omega) (by omega)
    rw [sz]; omega
  have fl : (List.replicate k.toNat its).flatten.length ≤ sizeLine := by
    have : k.toNat * xs.length ≤ 5000 * 1000 := Nat.mul_le_mul (by omega) z
    rw [PyProof.Rows.lm_len_rep_flat, ← len, sizeLine_eq]; omega
  have b0 : (decide (k < -(2 ^ 63)) || decide (k ≥ 2 ^ 63)) = false := Bool.or_eq_false_iff.mpr ⟨decide_eq_false (by omega), decide_eq_false (by omega)⟩
  have b1 : (its.toArray.isEmpty || k == 1) = false := Bool.or_eq_false_iff.mpr ⟨em, beq_eq_false_iff_ne.mpr (by omega)⟩
  have b2 : (decide (k ≤ 0) || its.toArray.isEmpty) = false := Bool.or_eq_false_iff.mpr ⟨decide_eq_false (by omega), em⟩
  have b4 : Builtin.Tuple.tupleTooMany (((its.toArray.size : Nat) : Int) * k) = false := by
    unfold Builtin.Tuple.tupleTooMany; rw [sizeLine_eq]; exact decide_eq_false (by omega)
  have go := tuple_mulW l its.toArray n dd sl k tk b0 b1 b2 (by omega) b4 (by rw [size_rep, List.size_toArray]; exact fl)
  refine wpAny_binaryOp_repeat_ref (T := "tuple") (U := "int") (by decide) ⟨_, ho, rfl⟩ (fun s' => typeIs_int s' k tk) noFill_tuple_mul PySem.F.fills_int_mul PySem.F.slot_int_rmul repeat_tuple PySem.F.slot_int_index.lookup ?_
  refine call_meets PySem.F.slot_int_rmul (typeIs_int s k tk) PySem.F.entry_int_rmul (PySem.F.args_int_rmul_2 _ _) (int_rmul_tuple k tk l its.toArray n dd sl) ⟨ho, rfl, ⟨_, ho, rfl⟩, ?_⟩
  refine call_meets PySem.F.slot_tuple_mul ⟨_, ho, rfl⟩ PySem.F.entry_tuple_mul (PySem.F.args_tuple_mul_2 _ _) go ⟨ho, ?_⟩
  rw [size_rep]
  refine newT I (r.rep k.toNat) ?_ q
  rw [PyProof.Rows.lm_len_rep_flat, len]
  rw [PyProof.Rows.lm_len_rep_flat] at fl
  exact fl
end
end DL
namespace DL
open PySem L2

inductive D where
  | non | bl (b : Bool) | int (i : Int) | str (s : Str) | tup (xs : List D) | cl (xs : List D) | cd (ks : List Str) (ds : List D) | dk (ks : List Key) (ds : List D) | ty (n : String) | gl (n : Str) | ref (a : Addr)

structure Gx where
  K : PySem.W.Frag
  w : World
  P : Program
  mg : Str → Option Value
@[reducible] def _root_.L2.Cx.gx (X : L2.Cx) : Gx := ⟨X.K, X.w, X.prog, X.mg⟩

inductive O where
  | lst (xs : List D)
  /-- a dict whose keys are tuples; one whose keys are ints and texts; a set of ints -/
  | dT (kvs : List (D × D)) | dK (kvs : List (Key × D)) | dS (kvs : List (Key × D)) | iset (S : Int → Bool) (n : Nat)
  /-- a set of ints and texts; an instance of a class of the program's own -/
  | tset (xs : List Key) | ins (n : Str) (fs : List (Str × D))
  /-- an exception of a class of the program's own, kept as a value: its one field -/
  | exc (n : Str) (fo : Option (Str × D))
  /-- a table of code objects: of the lambdas of a def -/
  | tab

abbrev DH := Addr → Option O
def DH.del (h : DH) (a : Addr) : DH := fun b => if b = a then none else h b
def DH.upd (h : DH) (a : Addr) (o : O) : DH := fun b => if b = a then some o else h b
theorem DH.upd_same {h : DH} {a : Addr} {o : O} : h.upd a o a = some o := by unfold DH.upd; rw [if_pos rfl]
theorem DH.upd_ne {h : DH} {a b : Addr} {o : O} (n : b ≠ a) : h.upd a o b = h b := by unfold DH.upd; rw [if_neg n]

abbrev Ex := Str × Option D

structure W (α : Type) where
  run : DH → (α → DH → Prop) → (Ex → DH → Prop) → Prop
  mono : ∀ {h : DH} {Q Q' : α → DH → Prop} {E : Ex → DH → Prop}, (∀ a h', Q a h' → Q' a h') → run h Q E → run h Q' E

namespace W
variable {α β : Type}
@[reducible] def pure (a : α) : W α := ⟨fun h Q _ => Q a h, fun f x => f _ _ x⟩
@[reducible] def bind (m : W α) (k : α → W β) : W β := ⟨fun h Q E => m.run h (fun a h' => (k a).run h' Q E) E, fun f x => m.mono (fun _ _ y => (k _).mono f y) x⟩
@[reducible] def read (f : DH → α → Prop) : W α := ⟨fun h Q _ => ∃ a, f h a ∧ Q a h, fun g ⟨a, p, q⟩ => ⟨a, p, g _ _ q⟩⟩
@[reducible] def opt (o : Option α) : W α := ⟨fun h Q _ => ∃ a, o = some a ∧ Q a h, fun g ⟨a, p, q⟩ => ⟨a, p, g _ _ q⟩⟩
@[reducible] def need (p : Prop) (m : W α) : W α := ⟨fun h Q E => p ∧ m.run h Q E, fun g ⟨a, q⟩ => ⟨a, m.mono g q⟩⟩
def fail : W α := ⟨fun _ _ _ => False, fun _ x => x.elim⟩
def new (o : O) : W D := ⟨fun h Q _ => ∀ p, h p = none → Q (.ref p) (h.upd p o), fun g x p hp => g _ _ (x p hp)⟩
end W

inductive Fl (L C : Type) where
  | nx (c : C) | rt (d : D) | bk (l : L) | ct (l : L)

def SqF (K : PySem.W.Frag) (H : Hp) (a : Addr) (xs : List V) : Prop :=
  (∃ o, H a = some (.frz o (.lst xs))) ∨
    ∃ (its : Array Value) (n : Nat), K.lookup a = some { cls := .type "list", data := .seq its n } ∧ its.size ≤ sizeLine ∧ Vals xs its.toList
theorem SqF.list {K : PySem.W.Frag} {H : Hp} {a : Addr} {xs : List V} (h : SqF K H a xs) : SqL K H a xs := by
  rcases h with h | ⟨its, n, e, l, v⟩
  · exact .inl (.inr h)
  · exact .inr ⟨_, its, n, e, rfl, rfl, rfl, l, v⟩
def SqR (K : PySem.W.Frag) (H : Hp) (a : Addr) (xs : List V) : Prop := H a = some (.lst xs) ∨ SqF K H a xs
theorem SqR.list {K : PySem.W.Frag} {H : Hp} {a : Addr} {xs : List V} (h : SqR K H a xs) : SqL K H a xs := h.elim SqL.of SqF.list
theorem SqR.exact {X : L2.Cx} {pins : List (Addr × Obj)} {σ : List (Option V)} {H : Hp} {s : Shared} {a : Addr} {xs : List V} (I : L2.Inv X pins σ H s) (h : SqR X.K H a xs) :
    ∃ (its : List Value) (n : Nat), xs.length ≤ sizeLine ∧ Vals xs its ∧ xs.length = its.length ∧ s.heap.get? a = some { cls := .type "list", data := .seq its.toArray n } := by
  rcases h with h | ⟨o, h⟩ | ⟨its, n, e, l, v⟩
  · obtain ⟨z, its, n, r, e⟩ := I.hok a _ h
    exact ⟨its, n, z, r, r.length, e⟩
  · obtain ⟨_, z, its, n, r, e⟩ := I.hok a _ h
    exact ⟨its, n, z, r, r.length, e⟩
  · exact ⟨its.toList, n, by rw [v.length, Array.length_toList]; exact l, v, v.length, by rw [Array.toArray_toList]; exact I.kIn _ _ e⟩

structure KDs (K : PySem.W.Frag) (w : World) (a : Addr) (ks : List Str) (vs : List V) : Prop where
  len : ks.length = vs.length
  at_ : ∀ (i : Nat) (z : Str) (v : V), ks[i]? = some z → vs[i]? = some v → ∃ u, PySem.W.nsIn K a z = some (some u) ∧ RelV v u
  no : ∀ z, z ∉ ks → PySem.W.nsIn K a z = some none
  it : ∃ es n, KDict K w a es n
def np : List D → Bool
  | [] => false
  | d :: _ => match d with
    | .tup [_, _] => false
    | _ => true
def SqP (K : PySem.W.Frag) (H : Hp) (a : Addr) (vs : List V) (ds : List D) : Prop := SqT K H a vs ∧ (PlT K H a ∨ np ds = true)
theorem SqP.of {K : PySem.W.Frag} {H : Hp} {p : Addr} {vs : List V} {ds : List D} {o : Obj} (h : PlO o) : SqP K (L2.upd H p (.frz o (.tup vs))) p vs ds := ⟨sqt_new, .inl (.of h)⟩
theorem SqP.np {K : PySem.W.Frag} {H : Hp} {p : Addr} {vs : List V} {ds : List D} (h : np ds = true) : SqP K (L2.upd H p (.tup vs)) p vs ds := ⟨SqT.of upd_same, .inr h⟩
mutual
inductive Rep (K : Gx) (H : Hp) : V → D → Prop
  | non : Rep K H .non .non
  | bl (b : Bool) : Rep K H (.bl b) (.bl b)
  | int (i : Int) : Rep K H (.int i) (.int i)
  | str (x : Str) : Rep K H (.str x) (.str x)
  | tup {a : Addr} {vs : List V} {ds : List D} : SqP K.K H a vs ds → Reps K H vs ds → Rep K H (.ref a) (.tup ds)
  | cl {a : Addr} {vs : List V} {ds : List D} : SqF K.K H a vs → Reps K H vs ds → Rep K H (.ref a) (.cl ds)
  | cd {a : Addr} {ks : List Str} {vs : List V} {ds : List D} : KDs K.K K.w a ks vs → Reps K H vs ds → Rep K H (.ref a) (.cd ks ds)
  | dk {a : Addr} {o : Obj} {l : List (Key × V)} {ks : List Key} {ds : List D} : H a = some (.frz o (.dK l)) → l.map (·.1) = ks → Reps K H (l.map (·.2)) ds → Rep K H (.ref a) (.dk ks ds)
  | ty (n : String) : Rep K H (.ty n) (.ty n)
  | gl {a : Addr} {n : Str} : K.mg n = some (.ref a) → Rep K H (.ref a) (.gl n)
  | ref (a : Addr) : Rep K H (.ref a) (.ref a)
inductive Reps (K : Gx) (H : Hp) : List V → List D → Prop
  | nil : Reps K H [] []
  | cons {v : V} {d : D} {vs : List V} {ds : List D} : Rep K H v d → Reps K H vs ds → Reps K H (v :: vs) (d :: ds)
end

def CodeQ (c : Addr) (q : Str) : HO := .ext fun h => ∃ (oc : Obj) (vs : Array Value) (t : Tok), h.get? c = some oc ∧ oc.data = .fields vs ∧ vs[1]? = some (.str q t)
def ofTab (P : Addr) (o : Obj) : Bool := match o.data with
  | .fields vs => match vs[11]? with
    | some (Value.ref a) => a == P
    | _ => false
  | _ => false
def tabNm (K : PySem.W.Frag) (P : Addr) : Str := match K.find? fun p => ofTab P p.2 with
  | some p => match p.2.data with
    | .fields vs => match vs[1]? with
      | some (Value.str x _) => x ++ ".<locals>." ++ "<lambda>"
      | _ => ""
    | _ => ""
  | none => ""
def TabT (K : PySem.W.Frag) (H : Hp) (P : Addr) : Prop := ∃ ps : Array Value, H P = some (.tbl ps) ∧ TriplesOk ps.toList ∧ ∀ (pos : Pos) (cv : Value), codeAmong pos ps.toList = some cv → ∃ c oc, cv = .ref c ∧ H c = some (.frz oc (CodeQ c (tabNm K P)))
structure Ext (K : Gx) (H H' : Hp) : Prop where
  t : ∀ a xs, SqT K.K H a xs → SqT K.K H' a xs
  f : ∀ a xs, SqF K.K H a xs → SqF K.K H' a xs
  z : ∀ a o u, H a = some (.frz o u) → H' a = some (.frz o u)
  tb : ∀ P, TabT K.K H P → TabT K.K H' P

section
variable {K : Gx} {H H1 H' : Hp}
theorem Ext.refl : Ext K H H := ⟨fun _ _ h => h, fun _ _ h => h, fun _ _ _ h => h, fun _ h => h⟩
theorem Ext.trans (a : Ext K H H1) (b : Ext K H1 H') : Ext K H H' := ⟨fun _ _ h => b.t _ _ (a.t _ _ h), fun _ _ h => b.f _ _ (a.f _ _ h), fun _ _ _ h => b.z _ _ _ (a.z _ _ _ h), fun _ h => b.tb _ (a.tb _ h)⟩
theorem PlT.mono {a : Addr} (e : Ext K H H') (h : PlT K.K H a) : PlT K.K H' a := h.elim (fun ⟨o, u, x, y⟩ => .inl ⟨o, u, e.z _ _ _ x, y⟩) .inr
theorem SqP.mono {a : Addr} {vs : List V} {ds : List D} (e : Ext K H H') (h : SqP K.K H a vs ds) : SqP K.K H' a vs ds := ⟨e.t _ _ h.1, h.2.imp (·.mono e) id⟩
mutual
theorem Rep.mono (e : Ext K H H') : ∀ {v : V} {d : D}, Rep K H v d → Rep K H' v d
  | _, _, .non => .non
  | _, _, .bl b => .bl b
  | _, _, .int i => .int i
  | _, _, .str x => .str x
  | _, _, .tup h r => .tup (h.mono e) (Reps.mono e r)
  | _, _, .cl h r => .cl (e.f _ _ h) (Reps.mono e r)
  | _, _, .cd h r => .cd h (Reps.mono e r)
  | _, _, .dk h q r => .dk (e.z _ _ _ h) q (Reps.mono e r)
  | _, _, .ty n => .ty n
  | _, _, .gl m => .gl m
  | _, _, .ref a => .ref a
theorem Reps.mono (e : Ext K H H') : ∀ {vs : List V} {ds : List D}, Reps K H vs ds → Reps K H' vs ds
  | _, _, .nil => .nil
  | _, _, .cons a r => .cons (Rep.mono e a) (Reps.mono e r)
end
theorem Reps.length : ∀ {vs : List V} {ds : List D}, Reps K H vs ds → vs.length = ds.length
  | _, _, .nil => rfl
  | _, _, .cons _ r => by rw [List.length_cons, List.length_cons, Reps.length r]
theorem Reps.get : ∀ {vs : List V} {ds : List D} {i : Nat} {d : D}, Reps K H vs ds → ds[i]? = some d → ∃ v, vs[i]? = some v ∧ Rep K H v d
  | _, _, i, d, .nil, e => by simp at e
  | _, _, 0, d, .cons a _, e => by simp at e; subst e; exact ⟨_, rfl, a⟩
  | _, _, i + 1, d, .cons _ r, e => by
    obtain ⟨v, h1, h2⟩ := Reps.get (i := i) r (by simpa using e)
    exact ⟨v, by simpa using h1, h2⟩
theorem Reps.getV : ∀ {vs : List V} {ds : List D} {i : Nat} {v : V}, Reps K H vs ds → vs[i]? = some v → ∃ d, ds[i]? = some d ∧ Rep K H v d
  | _, _, i, d, .nil, e => by simp at e
  | _, _, 0, d, .cons a _, e => by simp at e; subst e; exact ⟨_, rfl, a⟩
  | _, _, i + 1, d, .cons _ r, e => by
    obtain ⟨v, h1, h2⟩ := Reps.getV (i := i) r (by simpa using e)
    exact ⟨v, by simpa using h1, h2⟩
theorem Reps.append : ∀ {vs ws : List V} {ds es : List D}, Reps K H vs ds → Reps K H ws es → Reps K H (vs ++ ws) (ds ++ es)
  | _, _, _, _, .nil, s => s
  | _, _, _, _, .cons a r, s => .cons a (Reps.append r s)
theorem Reps.take : ∀ {vs : List V} {ds : List D} (n : Nat), Reps K H vs ds → Reps K H (vs.take n) (ds.take n)
  | _, _, 0, _ => .nil
  | _, _, _ + 1, .nil => .nil
  | _, _, n + 1, .cons a r => .cons a (Reps.take n r)
theorem Reps.drop : ∀ {vs : List V} {ds : List D} (n : Nat), Reps K H vs ds → Reps K H (vs.drop n) (ds.drop n)
  | _, _, 0, r => r
  | _, _, _ + 1, .nil => .nil
  | _, _, n + 1, .cons _ r => Reps.drop n r
theorem Reps.set {v : V} {d : D} (x : Rep K H v d) : ∀ {vs : List V} {ds : List D} (i : Nat), Reps K H vs ds → Reps K H (vs.set i v) (ds.set i d)
  | _, _, _, .nil => .nil
  | _, _, 0, .cons _ r => .cons x r
  | _, _, i + 1, .cons a r => .cons a (Reps.set x i r)
theorem Reps.reverse : ∀ {vs : List V} {ds : List D}, Reps K H vs ds → Reps K H vs.reverse ds.reverse
  | _, _, .nil => .nil
  | _, _, .cons a r => by
    rw [List.reverse_cons, List.reverse_cons]
    exact Reps.append (Reps.reverse r) (.cons a .nil)
theorem Reps.dropLast {vs : List V} {ds : List D} (r : Reps K H vs ds) : Reps K H vs.dropLast ds.dropLast := by
  rw [List.dropLast_eq_take, List.dropLast_eq_take, r.length]
  exact r.take _

mutual
def nk : D → NestedKey
  | .non => .none
  | .bl b => .num (if b = true then 1 else 0)
  | .int i => .num i
  | .str x => .text x
  | .tup xs => .tup (nks xs)
  | .cl _ => .none
  | .cd _ _ => .none
  | .dk _ _ => .none
  | .ty _ => .none
  | .gl _ => .none
  | .ref _ => .none
def nks : List D → List NestedKey
  | [] => []
  | x :: xs => nk x :: nks xs
end
mutual
def keyOk : D → Bool
  | .tup xs => keysOk xs
  | .cl _ => false
  | .cd _ _ => false
  | .dk _ _ => false
  | .ty _ => false
  | .gl _ => false
  | .ref _ => false
  | _ => true
def keysOk : List D → Bool
  | [] => true
  | x :: xs => keyOk x && keysOk xs
end
def DictR (P : Program) (w : World) (a : Addr) (l : List (NestedKey × Addr × V)) (h : Heap) : Prop :=
  (a == sysModules) = false ∧ l.length ≤ sizeLine ∧ (l.map (·.1)).Nodup ∧ ∃ xs : List (NestedKey × Addr × Value), Paired (fun (p : NestedKey × Addr × V) (q : NestedKey × Addr × Value) => p.1 = q.1 ∧ p.2.1 = q.2.1 ∧ RelV p.2.2 q.2.2) l xs ∧
    ∃ o es, h.get? a = some o ∧ o.ExactDict ∧ o.data = .dict es es.size ∧ es.toList = xs.map (entryOfKey (nestedKind P w))
def DictO (P : Program) (w : World) (a : Addr) (l : List (NestedKey × Addr × V)) : HO := .ext (DictR P w a l)
def DictSR (P : Program) (w : World) (a : Addr) (l : List (Key × V)) (h : Heap) : Prop :=
  (a == sysModules) = false ∧ l.length ≤ sizeLine ∧ ∃ vs, KV l vs ∧ h.DictAt (mixKind P w) a vs vs.length
def DictSO (P : Program) (w : World) (a : Addr) (l : List (Key × V)) : HO := .ext (DictSR P w a l)
def GoodS (w : World) (e : Int × Value) : Prop := ∃ k : Key, keyIs k e.2 = true ∧ e.1 = keyH w k
def keyE (e : Int × Value) : Key := match e.2 with
  | .str x _ => .inr x
  | .int i _ => .inl i
  | _ => .inl 0
def SetSR (w : World) (a : Addr) (xs : List Key) (h : Heap) : Prop :=
  ∃ o es ep t, h.get? a = some o ∧ o.ExactSet ∧ o.data = .set es ep t ∧ (∀ e ∈ es.toList, GoodS w e) ∧ (es.toList.map keyE).Perm xs ∧ xs.Nodup ∧
    es.size < scanBound ∧ t.fits es.size = true ∧ Ris t.place.toList ∧ (w.params.followText "set-order" = true ∨ t.led = true)
def SetSO (w : World) (a : Addr) (xs : List Key) : HO := .ext (SetSR w a xs)

def ORel (K : Gx) (H : Hp) (a : Addr) : O → Prop
  | .lst xs => ∃ vs, H a = some (.lst vs) ∧ Reps K H vs xs
  | .dT kvs => ∃ l, H a = some (DictO K.P K.w a l) ∧ Paired (fun (p : NestedKey × Addr × V) (q : D × D) => p.1 = nk q.1 ∧ p.1.depth ≤ 8 ∧ keyOk q.1 = true ∧ Rep K H (.ref p.2.1) q.1 ∧ Rep K H p.2.2 q.2) l kvs
  | .dK kvs => ∃ l : List (Key × V), H a = some (.dK l) ∧ Paired (fun (p : Key × V) (q : Key × D) => p.1 = q.1 ∧ Rep K H p.2 q.2) l kvs
  | .dS kvs => ∃ l : List (Key × V), H a = some (DictSO K.P K.w a l) ∧ Paired (fun (p : Key × V) (q : Key × D) => p.1 = q.1 ∧ Rep K H p.2 q.2) l kvs
  | .iset S n => H a = some (SetO K.w a S n)
  | .tset xs => H a = some (SetSO K.w a xs)
  | .ins n fs => ∃ C dx, ∃ l : List (Str × V), K.mg n = some (.ref C) ∧ H a = some (.ins C dx l) ∧ Paired (fun (p : Str × V) (q : Str × D) => p.1 = q.1 ∧ Rep K H p.2 q.2) l fs
  | .exc n fo => ∃ (C : Addr) (o : Obj) (dx : Option Addr), K.mg n = some (.ref C) ∧ H a = some (.frz o (exo a C dx)) ∧ match fo with
    | none => dx = none
    | some (f, d) => ∃ (b : Addr) (o2 : Obj) (v : V), dx = some b ∧ H b = some (.frz o2 (exd b [(f, v)])) ∧ Rep K H v d
  | .tab => TabT K.K H a
def HRel (K : Gx) (H : Hp) (h : DH) : Prop := ∀ a o, h a = some o → ORel K H a o
theorem ORel.there {a : Addr} {o : O} (r : ORel K H a o) : ∃ u, H a = some u := by
  cases o with
  | lst xs => obtain ⟨vs, e, _⟩ := r; exact ⟨_, e⟩
  | dT kvs => obtain ⟨vs, e, _⟩ := r; exact ⟨_, e⟩
  | dK kvs => obtain ⟨vs, e, _⟩ := r; exact ⟨_, e⟩
  | dS kvs => obtain ⟨vs, e, _⟩ := r; exact ⟨_, e⟩
  | iset S n => exact ⟨_, r⟩
  | tset xs => exact ⟨_, r⟩
  | ins n fs => obtain ⟨C, dx, l, _, e, _⟩ := r; exact ⟨_, e⟩
  | exc n fo => obtain ⟨C, ob, dx, _, e, _⟩ := r; exact ⟨_, e⟩
  | tab => obtain ⟨ps, e, _⟩ := r; exact ⟨_, e⟩
theorem ORel.stay {a : Addr} {o : O} (r : ORel K H a o) (e : Ext K H H') (q : H' a = H a) : ORel K H' a o := by
  cases o with
  | lst xs => obtain ⟨vs, p, x⟩ := r; exact ⟨vs, q.trans p, x.mono e⟩
  | dT kvs => obtain ⟨l, p, x⟩ := r; exact ⟨l, q.trans p, L2.Paired.mapP x fun _ _ ⟨a, b, c, d, f⟩ => ⟨a, b, c, d.mono e, f.mono e⟩⟩
  | dK kvs => obtain ⟨l, p, x⟩ := r; exact ⟨l, q.trans p, L2.Paired.mapP x fun _ _ ⟨a, f⟩ => ⟨a, f.mono e⟩⟩
  | dS kvs => obtain ⟨l, p, x⟩ := r; exact ⟨l, q.trans p, L2.Paired.mapP x fun _ _ ⟨a, f⟩ => ⟨a, f.mono e⟩⟩
  | iset S n => exact q.trans r
  | tset xs => exact q.trans r
  | ins n fs => obtain ⟨C, dx, l, m, p, x⟩ := r; exact ⟨C, dx, l, m, q.trans p, L2.Paired.mapP x fun _ _ ⟨a, f⟩ => ⟨a, f.mono e⟩⟩
  | exc n fo =>
    obtain ⟨C, ob, dx, m, p, x⟩ := r
    refine ⟨C, ob, dx, m, e.z _ _ _ p, ?_⟩
    cases fo with
    | none => exact x
    | some fd =>
      obtain ⟨b, o2, v, hb, h2, rv⟩ := x
      exact ⟨b, o2, v, hb, e.z _ _ _ h2, rv.mono e⟩
  | tab => exact e.tb _ r
theorem HRel.none {h : DH} {p : Addr} (r : HRel K H h) (n : H p = none) : h p = none := by
  cases q : h p with
  | none => rfl
  | some o =>
    obtain ⟨u, e⟩ := (r p o q).there
    rw [n] at e; cases e
theorem Ext.laid {p : Addr} {o : HO} (n : H p = none) : Ext K H (L2.upd H p o) := by
  have k : ∀ a u, H a = some u → L2.upd H p o a = some u := fun a u e => by rw [upd_ne (ne_of_none e n)]; exact e
  refine ⟨fun a xs h => ?_, fun a xs h => ?_, fun a ob v h => k _ _ h, fun P ⟨ps, h1, h2, h3⟩ => ⟨ps, k _ _ h1, h2, fun pos cv hc => let ⟨c, oc, e1, e2⟩ := h3 pos cv hc; ⟨c, oc, e1, k _ _ e2⟩⟩⟩
  · rcases h with (h | ⟨ob, h⟩) | h
    · exact .inl (.inl (k _ _ h))
    · exact .inl (.inr ⟨ob, k _ _ h⟩)
    · exact .inr h
  · rcases h with ⟨ob, h⟩ | h
    · exact .inl ⟨ob, k _ _ h⟩
    · exact .inr h
theorem Ext.wrote {p : Addr} {o u : HO} (e : H p = some u) (n1 : ∀ xs, u ≠ .tup xs) (n2 : ∀ ob v, u ≠ .frz ob v) (n3 : ∀ q, u ≠ .tbl q := by intro q z; cases z) : Ext K H (L2.upd H p o) := by
  have k : ∀ a v, H a = some v → v ≠ u → L2.upd H p o a = some v := fun a v q n => by rw [upd_ne (ne_of q e n)]; exact q
  refine ⟨fun a xs h => ?_, fun a xs h => ?_, fun a ob v h => k _ _ h fun z => n2 _ _ z.symm, fun P ⟨ps, h1, h2, h3⟩ => ⟨ps, k _ _ h1 fun z => n3 _ z.symm, h2, fun pos cv hc => let ⟨c, oc, e1, e2⟩ := h3 pos cv hc; ⟨c, oc, e1, k _ _ e2 fun z => n2 _ _ z.symm⟩⟩⟩
  · rcases h with (h | ⟨ob, h⟩) | h
    · exact .inl (.inl (k _ _ h fun z => n1 _ z.symm))
    · exact .inl (.inr ⟨ob, k _ _ h fun z => n2 _ _ z.symm⟩)
    · exact .inr h
  · rcases h with ⟨ob, h⟩ | h
    · exact .inl ⟨ob, k _ _ h fun z => n2 _ _ z.symm⟩
    · exact .inr h
theorem HRel.under {h : DH} {p : Addr} {o : HO} (r : HRel K H h) (n : H p = Option.none) : HRel K (L2.upd H p o) h := fun a u e =>
  (r a u e).stay (Ext.laid n) (upd_ne fun z => by
    obtain ⟨w, q⟩ := (r a u e).there
    rw [z, n] at q; cases q)
theorem HRel.laid {h : DH} {p : Addr} {o : HO} {d : O} (r : HRel K H h) (n : H p = Option.none) (x : ORel K (L2.upd H p o) p d) : HRel K (L2.upd H p o) (h.upd p d) := fun a u e => by
  by_cases q : a = p
  · subst q
    rw [DH.upd_same] at e; cases e
    exact x
  · rw [DH.upd_ne q] at e
    exact (r a u e).stay (Ext.laid n) (upd_ne q)
theorem HRel.wrote {h : DH} {p : Addr} {o u : HO} {d : O} (r : HRel K H h) (e : H p = some u) (n1 : ∀ xs, u ≠ .tup xs) (n2 : ∀ ob v, u ≠ .frz ob v) (x : ORel K (L2.upd H p o) p d) (n3 : ∀ q, u ≠ .tbl q := by intro q z; cases z) :
    HRel K (L2.upd H p o) (h.upd p d) := fun a v q => by
  by_cases z : a = p
  · subst z
    rw [DH.upd_same] at q; cases q
    exact x
  · rw [DH.upd_ne z] at q
    exact (r a v q).stay (Ext.wrote e n1 n2 n3) (upd_ne z)
end

abbrev Lo := List (Option D)
structure LRel (K : Gx) (H : Hp) (r : Lo) (σ : St) : Prop where
  len : σ.length = r.length
  at_ : ∀ (i : Nat) (d : D), r[i]? = some (some d) → ∃ v, σ[i]? = some (some v) ∧ Rep K H v d
section
variable {K : Gx} {H H' : Hp} {r r' : Lo} {σ : St}
theorem LRel.mono (l : LRel K H r σ) (e : Ext K H H') : LRel K H' r σ := ⟨l.len, fun i d q => let ⟨v, a, b⟩ := l.at_ i d q; ⟨v, a, b.mono e⟩⟩
theorem LRel.set (l : LRel K H r σ) {i : Nat} {v : V} {d : D} (x : Rep K H v d) : LRel K H (r.set i (some d)) (σ.set i (some v)) := by
  refine ⟨by rw [List.length_set, List.length_set]; exact l.len, fun j e q => ?_⟩
  by_cases hj : j = i
  · subst hj
    rw [List.getElem?_set] at q
    rw [if_pos rfl] at q
    by_cases hl : j < r.length
    · rw [if_pos hl] at q
      cases q
      exact ⟨v, by rw [List.getElem?_set, if_pos rfl, if_pos (by rw [l.len]; exact hl)], x⟩
    · rw [if_neg hl] at q; cases q
  · rw [List.getElem?_set_ne (Ne.symm hj)] at q
    obtain ⟨u, a, b⟩ := l.at_ j e q
    exact ⟨u, by rw [List.getElem?_set_ne (Ne.symm hj)]; exact a, b⟩
inductive Le : Lo → Lo → Prop
  | nil : Le [] []
  | n {a : Option D} {r r' : Lo} : Le r r' → Le (none :: r) (a :: r')
  | s {a : Option D} {r r' : Lo} : Le r r' → Le (a :: r) (a :: r')
theorem Le.refl : ∀ r : Lo, Le r r
  | [] => .nil
  | _ :: r => .s (Le.refl r)
theorem Le.length : ∀ {r r' : Lo}, Le r r' → r.length = r'.length
  | _, _, .nil => rfl
  | _, _, .n h => by rw [List.length_cons, List.length_cons, h.length]
  | _, _, .s h => by rw [List.length_cons, List.length_cons, h.length]
theorem Le.at_ : ∀ {r r' : Lo} {i : Nat} {d : D}, Le r r' → r[i]? = some (some d) → r'[i]? = some (some d)
  | _, _, i, d, .nil, e => e
  | _, _, 0, d, .n _, e => by simp at e
  | _, _, i + 1, d, .n h, e => by simpa using h.at_ (i := i) (by simpa using e)
  | _, _, 0, d, .s _, e => e
  | _, _, i + 1, d, .s h, e => by simpa using h.at_ (i := i) (by simpa using e)
theorem LRel.le (l : LRel K H r' σ) (e : Le r r') : LRel K H r σ := ⟨l.len.trans e.length.symm, fun i d q => l.at_ i d (e.at_ q)⟩
end
end DL
namespace DL
open PySem L2
open PyProof.Rows (isTrue_plain)

abbrev EKt := Ex → DH → Prop
section
variable (K : Gx) (EK : EKt) (r : Lo)
def tE (m : W D) : TE := fun σ H Q => ∃ h, LRel K H r σ ∧ HRel K H h ∧ m.run h (fun d h' => ∀ v H', Ext K H H' → HRel K H' h' → Rep K H' v d → Q v H') EK
def tT (m : W Bool) : TT := fun σ H Q => ∃ h, LRel K H r σ ∧ HRel K H h ∧ m.run h (fun b h' => ∀ H', Ext K H H' → HRel K H' h' → Q b H') EK
def tA (m : W (List D)) : TA := fun σ H Q => ∃ h, LRel K H r σ ∧ HRel K H h ∧ m.run h (fun ds h' => ∀ vs H', Ext K H H' → HRel K H' h' → Reps K H' vs ds → Q vs H') EK
def FlEnd {L C : Type} (K : Gx) (Jn : C → Lo) (Jl : L → Lo) (D : Ends) (σ : St) (H : Hp) : Fl L C → Prop
  | .nx c => LRel K H (Jn c) σ → D.nx σ H
  | .rt d => ∀ v, Rep K H v d → D.rt v H
  | .bk l => LRel K H (Jl l) σ → D.bk σ H
  | .ct l => LRel K H (Jl l) σ → D.ct σ H
def tB {L C : Type} (Jn : C → Lo) (Jl : L → Lo) (m : W (Fl L C)) : TS := fun D σ H => ∃ h, LRel K H r σ ∧ HRel K H h ∧
  m.run h (fun fl h' => ∀ σ' H', Ext K H H' → HRel K H' h' → FlEnd K Jn Jl D σ' H' fl) EK
end

structure DE (X : Cx) (EK : EKt) (r : Lo) (e : Expr) (m : W D) : Prop where
  pe : PE X e (tE X.gx EK r m)
structure DT (X : Cx) (EK : EKt) (r : Lo) (e : Expr) (m : W Bool) : Prop where
  pt : PT X e (tT X.gx EK r m)
structure DB (X : Cx) (EK : EKt) {L C : Type} (Jn : C → Lo) (Jl : L → Lo) (r : Lo) (sts : List Stmt) (m : W (Fl L C)) : Prop where
  ps : PSs X sts (tB X.gx EK r Jn Jl m)

section
variable {X : Cx}
theorem pe_weak {e : Expr} {t t' : TE} (h : PE X e t) (f : ∀ σ H Q, t' σ H Q → t σ H Q) : PE X e t' := ⟨fun p s σ H Q I x => h.run p s σ H Q I (f _ _ _ x)⟩
theorem pt_weak {e : Expr} {t t' : TT} (h : PT X e t) (f : ∀ σ H Q, t' σ H Q → t σ H Q) : PT X e t' := ⟨fun p s σ H Q I x => h.run p s σ H Q I (f _ _ _ x)⟩
theorem pw_weak {e : Expr} {t t' : TT} (h : PW X e t) (f : ∀ σ H Q, t' σ H Q → t σ H Q) : PW X e t' := ⟨fun wh p s σ H Q I x => h.run wh p s σ H Q I (f _ _ _ x)⟩
theorem pa_weak {es : List Expr} {t t' : TA} (h : PA X es t) (f : ∀ σ H Q, t' σ H Q → t σ H Q) : PA X es t' := ⟨fun q p s σ H Q I x => h.run q p s σ H Q I (f _ _ _ x)⟩
theorem pss_weak {sts : List Stmt} {t t' : TS} (h : PSs X sts t) (f : ∀ D σ H, t' D σ H → t D σ H) : PSs X sts t' := ⟨fun p s σ H Q I x => h.run p s σ H Q I (f _ _ _ x)⟩
theorem ps_weak {st : Stmt} {t t' : TS} (h : PS X st t) (f : ∀ D σ H, t' D σ H → t D σ H) : PS X st t' := ⟨fun p s σ H Q I x => h.run p s σ H Q I (f _ _ _ x)⟩
end

@[reducible] def e1 (o : D → W D) (a : W D) : W D := a.bind o
@[reducible] def e2 (o : D → D → W D) (a b : W D) : W D := a.bind fun x => b.bind fun y => o x y
@[reducible] def c2 (o : D → D → W Bool) (a b : W D) : W Bool := a.bind fun x => b.bind fun y => o x y
@[reducible] def vB (m : W Bool) : W D := m.bind fun b => W.pure (.bl b)

def Sim2 (K : Gx) (EK : EKt) (r : R2) (o : D → D → W D) : Prop :=
  ∀ (H : Hp) (h : DH) (x y : V) (d e : D) (Q : VK), HRel K H h → Rep K H x d → Rep K H y e →
    (o d e).run h (fun d h' => ∀ v H', Ext K H H' → HRel K H' h' → Rep K H' v d → Q v H') EK → r x y H Q
def SimC (K : Gx) (EK : EKt) (r : R2) (o : D → D → W Bool) : Prop :=
  ∀ (H : Hp) (h : DH) (x y : V) (d e : D) (Q : VK), HRel K H h → Rep K H x d → Rep K H y e →
    (o d e).run h (fun b h' => ∀ H', Ext K H H' → HRel K H' h' → Q (.bl b) H') EK → r x y H Q
def Sim1 (K : Gx) (EK : EKt) (r : V → Hp → VK → Prop) (o : D → W D) : Prop :=
  ∀ (H : Hp) (h : DH) (x : V) (d : D) (Q : VK), HRel K H h → Rep K H x d →
    (o d).run h (fun d h' => ∀ v H', Ext K H H' → HRel K H' h' → Rep K H' v d → Q v H') EK → r x H Q
def SimL (K : Gx) (EK : EKt) (r : List V → Hp → VK → Prop) (o : List D → W D) : Prop :=
  ∀ (H : Hp) (h : DH) (xs : List V) (ds : List D) (Q : VK), HRel K H h → Reps K H xs ds →
    (o ds).run h (fun d h' => ∀ v H', Ext K H H' → HRel K H' h' → Rep K H' v d → Q v H') EK → r xs H Q
def SimM (K : Gx) (EK : EKt) (r : V → List V → Hp → VK → Prop) (o : D → List D → W D) : Prop :=
  ∀ (H : Hp) (h : DH) (x : V) (d : D) (xs : List V) (ds : List D) (Q : VK), HRel K H h → Rep K H x d → Reps K H xs ds →
    (o d ds).run h (fun d h' => ∀ v H', Ext K H H' → HRel K H' h' → Rep K H' v d → Q v H') EK → r x xs H Q
def SimT (K : Gx) (EK : EKt) (r : V → Hp → (Bool → Hp → Prop) → Prop) (o : D → W Bool) : Prop :=
  ∀ (H : Hp) (h : DH) (x : V) (d : D) (Q : Bool → Hp → Prop), HRel K H h → Rep K H x d →
    (o d).run h (fun b h' => ∀ H', Ext K H H' → HRel K H' h' → Q b H') EK → r x H Q

section
variable {X : Cx} {EK : EKt} {r : Lo} {a b c : Expr} {ma mb mc : W D} {pos : Pos}

theorem glue1 {K : Gx} {σ : St} {H : Hp} {Q : VK} {k : D → W D} (h : tE K EK r (ma.bind k) σ H Q) {R : VK}
    (f : ∀ d h' v H', Ext K H H' → HRel K H' h' → Rep K H' v d → LRel K H' r σ → (k d).run h' (fun d h' => ∀ v H'', Ext K H' H'' → HRel K H'' h' → Rep K H'' v d → Q v H'') EK → R v H') :
    tE K EK r ma σ H R := by
  obtain ⟨h0, l, hr, run⟩ := h
  refine ⟨h0, l, hr, ma.mono (fun d h' q v H' e hr' rp => f d h' v H' e hr' rp (l.mono e) ?_) run⟩
  exact (k d).mono (fun d2 h2 q2 v2 H2 e2 hr2 rp2 => q2 v2 H2 (e.trans e2) hr2 rp2) q
theorem glue1T {K : Gx} {σ : St} {H : Hp} {Q : Bool → Hp → Prop} {k : D → W Bool} (h : tT K EK r (ma.bind k) σ H Q) {R : VK}
    (f : ∀ d h' v H', Ext K H H' → HRel K H' h' → Rep K H' v d → LRel K H' r σ → (k d).run h' (fun b h' => ∀ H'', Ext K H' H'' → HRel K H'' h' → Q b H'') EK → R v H') :
    tE K EK r ma σ H R := by
  obtain ⟨h0, l, hr, run⟩ := h
  refine ⟨h0, l, hr, ma.mono (fun d h' q v H' e hr' rp => f d h' v H' e hr' rp (l.mono e) ?_) run⟩
  exact (k d).mono (fun d2 h2 q2 H2 e2 hr2 => q2 H2 (e.trans e2) hr2) q

theorem de_var {x : Str} {d : D} (i : Nat) (hi : r[i]? = some (some d)) (hN : X.N[i]? = some x) (hv : Vis X.env.scope x) (hd : (x == ("__debug__" : Str)) = false := by decide +kernel)
    (hcd : (x == ("__classdict__" : Str)) = false := by decide +kernel) : DE X EK r (.Name x pos) (W.pure d) :=
  ⟨pe_weak (pe_var hN hv hd hcd) fun σ H Q ⟨h, l, hr, run⟩ => by
    obtain ⟨v, e, rp⟩ := l.at_ i d hi
    exact ⟨v, e, run v H Ext.refl hr rp⟩⟩
theorem de_int {i j} : DE X EK r (.Constant (.int i) j pos) (W.pure (.int i)) := ⟨pe_weak pe_int fun σ H Q ⟨h, l, hr, run⟩ => run _ H Ext.refl hr (.int i)⟩
theorem de_str {i j} : DE X EK r (.Constant (.str i) j pos) (W.pure (.str i)) := ⟨pe_weak pe_str fun σ H Q ⟨h, l, hr, run⟩ => run _ H Ext.refl hr (.str i)⟩
theorem de_bl {i j} : DE X EK r (.Constant (.bool i) j pos) (W.pure (.bl i)) := ⟨pe_weak pe_bl fun σ H Q ⟨h, l, hr, run⟩ => run _ H Ext.refl hr (.bl i)⟩
theorem de_glob {x : Str} {u : Value} {v : V} {d : D} (hg : Gl X x) (hm : X.mg x = some u) (rv : RelV v u) (rp : ∀ H, Rep X.gx H v d) (hd : (x == ("__debug__" : Str)) = false := by decide +kernel) : DE X EK r (.Name x pos) (W.pure d) :=
  ⟨pe_weak (pe_glob hg hm rv hd) fun σ H Q ⟨h, l, hr, run⟩ => run v H Ext.refl hr (rp H)⟩

theorem de_bin {op : Operator} {ro : R2} {o : D → D → W D} (ho : OpR X (binaryOp op) ro) (sm : Sim2 X.gx EK ro o) (ha : DE X EK r a ma) (hb : DE X EK r b mb) : DE X EK r (.BinOp a op b pos) (e2 o ma mb) :=
  ⟨pe_weak (pe_op ho ha.pe hb.pe) fun σ H Q x => glue1 x fun d h' v H' e hr rp l run => glue1 (k := fun y => o d y) ⟨h', l, hr, run⟩ fun d2 h2 v2 H2 e2 hr2 rp2 l2 run2 => sm H2 h2 v v2 d d2 Q hr2 (rp.mono e2) rp2 run2⟩
theorem de_un {op : UnaryOp} {ro : V → Hp → VK → Prop} {o : D → W D} (ho : UnR X (unaryOp op) ro) (sm : Sim1 X.gx EK ro o) (ha : DE X EK r a ma) : DE X EK r (.UnaryOp op a pos) (e1 o ma) :=
  ⟨pe_weak (pe_un ho ha.pe) fun σ H Q x => glue1 x fun d h' v H' e hr rp l run => sm H' h' v d Q hr rp run⟩
theorem de_ix {ro : R2} {o : D → D → W D} (ho : IxR X ro) (sm : Sim2 X.gx EK ro o) (ha : DE X EK r a ma) (hb : DE X EK r b mb) (hs : PlainIx b) : DE X EK r (.Subscript a b pos) (e2 o ma mb) :=
  ⟨pe_weak (pe_ix ho ha.pe hb.pe hs) fun σ H Q x => glue1 x fun d h' v H' e hr rp l run => glue1 (k := fun y => o d y) ⟨h', l, hr, run⟩ fun d2 h2 v2 H2 e2 hr2 rp2 l2 run2 => sm H2 h2 v v2 d d2 Q hr2 (rp.mono e2) rp2 run2⟩
theorem dt_cmp {op : CmpOp} {ro : R2} {o : D → D → W Bool} (ho : OpR X (compareOp op) ro) (sm : SimC X.gx EK ro o) (ha : DE X EK r a ma) (hb : DE X EK r b mb) (hm : behindInMarks op b = false) : DT X EK r (.Compare a [op] [b] pos) (c2 o ma mb) :=
  ⟨pt_weak (pt_cmpR ho ha.pe hb.pe hm) fun σ H Q x => glue1T x fun d h' v H' e hr rp l run => glue1T (k := fun y => o d y) ⟨h', l, hr, run⟩ fun d2 h2 v2 H2 e2 hr2 rp2 l2 run2 =>
    sm H2 h2 v v2 d d2 _ hr2 (rp.mono e2) rp2 ((o d d2).mono (fun b h3 q H3 e3 hr3 => ⟨b, rfl, q H3 e3 hr3⟩) run2)⟩
theorem de_cmp {op : CmpOp} {ro : R2} {o : D → D → W Bool} (ho : OpR X (compareOp op) ro) (sm : SimC X.gx EK ro o) (ha : DE X EK r a ma) (hb : DE X EK r b mb) (hm : behindInMarks op b = false) : DE X EK r (.Compare a [op] [b] pos) (vB (c2 o ma mb)) :=
  ⟨pe_weak (pe_cmpR ho ha.pe hb.pe hm) fun σ H Q x => glue1 (k := fun x => (mb.bind fun y => o x y).bind fun b => W.pure (.bl b)) x fun d h' v H' e hr rp l run =>
    glue1 (k := fun y => (o d y).bind fun b => W.pure (.bl b)) ⟨h', l, hr, run⟩ fun d2 h2 v2 H2 e2 hr2 rp2 l2 run2 => sm H2 h2 v v2 d d2 _ hr2 (rp.mono e2) rp2 ((o d d2).mono (fun b h3 q H3 e3 hr3 => q _ H3 e3 hr3 (.bl b)) run2)⟩
theorem dt_val {ro : V → Hp → (Bool → Hp → Prop) → Prop} {o : D → W Bool} (ho : TruR X ro) (sm : SimT X.gx EK ro o) (ha : DE X EK r a ma) (he : ∀ whole, isTrue a X.env whole = (do let v ← whole; standAt a.pos; holding [v] (truthy v)) := by intro _; rfl) : DT X EK r a (ma.bind o) :=
  ⟨⟨fun pins s σ H Q I x => isTrue_plain (thn (ha.pe.run pins s σ H (fun v H' => ro v H' Q) I (glue1T x fun d h' v H' e hr rp l run => sm H' h' v d Q hr rp run)) fun v s1 ⟨x, H1, I1, r1, q1⟩ => ho pins s1 σ H1 x v Q I1 r1 q1) (he _)⟩⟩

@[reducible] def wIte {α : Type} (c : W Bool) (a b : W α) : W α := ⟨fun h Q E => c.run h (fun k h1 => (k = true → a.run h1 Q E) ∧ (k = false → b.run h1 Q E)) E,
  fun g x => c.mono (fun _ _ y => ⟨fun z => a.mono g (y.1 z), fun z => b.mono g (y.2 z)⟩) x⟩
@[reducible] def wAnd (a b : W Bool) : W Bool := wIte a b (W.pure false)
@[reducible] def wOr (a b : W Bool) : W Bool := wIte a (W.pure true) b
@[reducible] def wNot (a : W Bool) : W Bool := a.bind fun b => W.pure (!b)

structure DW (X : Cx) (EK : EKt) (r : Lo) (e : Expr) (m : W Bool) : Prop where
  pw : PW X e (tT X.gx EK r m)
variable {ta tb : W Bool} {rest : List Expr}
theorem glueT {K : Gx} {σ : St} {H : Hp} {Q : Bool → Hp → Prop} {k : Bool → W Bool} (h : tT K EK r ⟨fun h Q E => ta.run h (fun b h1 => (k b).run h1 Q E) E, fun g x => ta.mono (fun _ _ y => (k _).mono g y) x⟩ σ H Q) {R : Bool → Hp → Prop}
    (f : ∀ b h' H', Ext K H H' → HRel K H' h' → LRel K H' r σ → (k b).run h' (fun b h' => ∀ H'', Ext K H' H'' → HRel K H'' h' → Q b H'') EK → R b H') :
    tT K EK r ta σ H R := by
  obtain ⟨h0, l, hr, run⟩ := h
  refine ⟨h0, l, hr, ta.mono (fun d h' q H' e hr' => f d h' H' e hr' (l.mono e) ?_) run⟩
  exact (k d).mono (fun d2 h2 q2 H2 e2 hr2 => q2 H2 (e.trans e2) hr2) q
theorem ite_run {α : Type} {c : W Bool} {a b : W α} {h : DH} {Q : α → DH → Prop} {E : EKt} (x : (wIte c a b).run h Q E) : c.run h (fun k h1 => (if k = true then a else b).run h1 Q E) E :=
  c.mono (fun k h1 ⟨p, q⟩ => by
    cases k with
    | true => exact p rfl
    | false => exact q rfl) x
theorem dw_one {op} (ha : DT X EK r a ta) : DW X EK r (.BoolOp op [a] pos) ta := by
  cases op with
  | And => exact ⟨pw_and1 ha.pt⟩
  | Or => exact ⟨pw_or1 ha.pt⟩
theorem dw_and (ha : DT X EK r a ta) (hb : DW X EK r (.BoolOp .And (b :: rest) pos) tb) : DW X EK r (.BoolOp .And (a :: b :: rest) pos) (wAnd ta tb) :=
  ⟨pw_weak (pw_and ha.pt hb.pw) fun σ H Q ⟨h, l, hr, run⟩ => glueT (k := fun k => if k = true then tb else W.pure false) ⟨h, l, hr, ite_run run⟩ fun k h' H' e hr' l' run' => by
    cases k with
    | true => rw [if_pos rfl] at run' ⊢; exact ⟨h', l', hr', run'⟩
    | false => rw [if_neg Bool.false_ne_true] at run' ⊢; exact run' H' Ext.refl hr'⟩
theorem dw_or (ha : DT X EK r a ta) (hb : DW X EK r (.BoolOp .Or (b :: rest) pos) tb) : DW X EK r (.BoolOp .Or (a :: b :: rest) pos) (wOr ta tb) :=
  ⟨pw_weak (pw_or ha.pt hb.pw) fun σ H Q ⟨h, l, hr, run⟩ => glueT (k := fun k => if k = true then W.pure true else tb) ⟨h, l, hr, ite_run run⟩ fun k h' H' e hr' l' run' => by
    cases k with
    | true => rw [if_pos rfl] at run' ⊢; exact run' H' Ext.refl hr'
    | false => rw [if_neg Bool.false_ne_true] at run' ⊢; exact ⟨h', l', hr', run'⟩⟩
theorem DW.dt (h : DW X EK r a ta) : DT X EK r a ta := ⟨h.pw.pt⟩
theorem dt_not (ha : DT X EK r a ta) : DT X EK r (.UnaryOp .Not a pos) (wNot ta) :=
  ⟨pt_weak (pt_not ha.pt) fun σ H Q x => glueT (k := fun b => W.pure (!b)) x fun k h' H' e hr' l' run' => run' H' Ext.refl hr'⟩
theorem de_ifExp (hc : DT X EK r c ta) (ha : DE X EK r a ma) (hb : DE X EK r b mb) : DE X EK r (.IfExp c a b pos) (wIte ta ma mb) := by
  refine ⟨pe_weak (pe_ifExp hc.pt ha.pe hb.pe) ?_⟩
  rintro σ H Q ⟨h, l, hr, run⟩
  refine ⟨h, l, hr, ta.mono (fun k h1 q => ?_) (ite_run run)⟩
  intro H' e hr'
  cases k with
  | true => exact ⟨h1, l.mono e, hr', ma.mono (fun d2 h2 q2 v2 H2 e2 hr2 rp2 => q2 v2 H2 (e.trans e2) hr2 rp2) q⟩
  | false => exact ⟨h1, l.mono e, hr', mb.mono (fun d2 h2 q2 v2 H2 e2 hr2 rp2 => q2 v2 H2 (e.trans e2) hr2 rp2) q⟩
end
end DL
namespace DL
open PySem L2

@[reducible] def eArgs : List (W D) → W (List D)
  | [] => W.pure []
  | m :: ms => m.bind fun x => (eArgs ms).bind fun xs => W.pure (x :: xs)
theorem eArgs_len : ∀ (ms : List (W D)) {h : DH} {Q : List D → DH → Prop} {E : EKt}, (eArgs ms).run h Q E → (eArgs ms).run h (fun ds h' => ds.length = ms.length ∧ Q ds h') E
  | [], _, _, _, x => ⟨rfl, x⟩
  | m :: ms, h, Q, E, x => m.mono (fun d h1 y => (eArgs ms).mono (fun ds h2 ⟨a, b⟩ => ⟨by rw [List.length_cons, List.length_cons, a], b⟩) (eArgs_len ms y)) x
@[reducible] def eTup (ms : List (W D)) : W D := (eArgs ms).bind fun ds => W.pure (.tup ds)
@[reducible] def eLst (ms : List (W D)) : W D := (eArgs ms).bind fun ds => W.new (.lst ds)
@[reducible] def eCall (f : List D → W D) (ms : List (W D)) : W D := (eArgs ms).bind f
@[reducible] def ap1 (f : D → W D) : List D → W D | [a] => f a | _ => W.fail
@[reducible] def ap2 (f : D → D → W D) : List D → W D | [a, b] => f a b | _ => W.fail
@[reducible] def ap3 (f : D → D → D → W D) : List D → W D | [a, b, c] => f a b c | _ => W.fail
@[reducible] def ap4 (f : D → D → D → D → W D) : List D → W D | [a, b, c, d] => f a b c d | _ => W.fail
structure DA (X : Cx) (EK : EKt) (r : Lo) (es : List Expr) (ms : List (W D)) : Prop where
  pa : PA X es (tA X.gx EK r (eArgs ms))
  len : es.length = ms.length

section
variable {X : Cx} {EK : EKt} {r : Lo} {e : Expr} {es : List Expr} {m : W D} {ms : List (W D)} {pos p : Pos}
theorem da_nil : DA X EK r [] [] := ⟨pa_weak pa_nil fun σ H Q ⟨h, l, hr, run⟩ => run [] H Ext.refl hr .nil, rfl⟩
theorem da_cons (ha : DE X EK r e m) (hb : DA X EK r es ms) (hs : starEach (e :: es) X.env = (false, eval e X.env) :: starEach es X.env := by rfl) : DA X EK r (e :: es) (m :: ms) := by
  refine ⟨pa_weak (pa_cons ha.pe hb.pa hs) ?_, by rw [List.length_cons, List.length_cons, hb.len]⟩
  rintro σ H Q ⟨h, l, hr, run⟩
  refine ⟨h, l, hr, m.mono (fun d h1 q v H1 e1 hr1 rp1 => ?_) run⟩
  exact ⟨h1, l.mono e1, hr1, (eArgs ms).mono (fun ds h2 q2 vs H2 e2 hr2 rp2 => q2 (v :: vs) H2 (e1.trans e2) hr2 (.cons (rp1.mono e2) rp2)) q⟩

theorem glueA {K : Gx} {σ : L2.St} {H : Hp} {Q : VK} {k : List D → W D} (h : tE K EK r ((eArgs ms).bind k) σ H Q) {R : List V → Hp → Prop}
    (f : ∀ ds h' vs H', Ext K H H' → HRel K H' h' → Reps K H' vs ds → LRel K H' r σ → ds.length = ms.length → (k ds).run h' (fun d h' => ∀ v H'', Ext K H' H'' → HRel K H'' h' → Rep K H'' v d → Q v H'') EK → R vs H') :
    tA K EK r (eArgs ms) σ H R := by
  obtain ⟨h0, l, hr, run⟩ := h
  refine ⟨h0, l, hr, (eArgs ms).mono (fun ds h' ⟨hl, q⟩ vs H' e hr' rp => f ds h' vs H' e hr' rp (l.mono e) hl ?_) (eArgs_len ms run)⟩
  exact (k ds).mono (fun d2 h2 q2 v2 H2 e2 hr2 rp2 => q2 v2 H2 (e.trans e2) hr2 rp2) q

theorem de_tup {k : Nat} (ha : DA X EK r es ms) (hl : ms.length ≤ 100000 := by decide) : DE X EK r (.Tuple es k pos) (eTup ms) :=
  ⟨pe_weak (pe_tupF ha.pa) fun σ H Q x => glueA x fun ds h' vs H' e hr rp l hd run => by
    have hz : vs.length ≤ sizeLine := by rw [rp.length, hd]; exact Nat.le_trans hl (by decide)
    exact ⟨hz, fun p o hp ho => run _ _ (Ext.laid hp) (hr.under hp) (.tup (SqP.of ho) (rp.mono (Ext.laid hp)))⟩⟩
theorem de_lst (ha : DA X EK r es ms) (hl : ms.length ≤ 100000 := by decide) : DE X EK r (.List es pos) (eLst ms) :=
  ⟨pe_weak (pe_lst ha.pa) fun σ H Q x => glueA x fun ds h' vs H' e hr rp l hd run => by
    have hz : vs.length ≤ sizeLine := by rw [rp.length, hd]; exact Nat.le_trans hl (by decide)
    exact ⟨hz, fun p hp => run p (hr.none hp) _ _ (Ext.laid hp) (hr.laid hp ⟨vs, upd_same, rp.mono (Ext.laid hp)⟩) (.ref p)⟩⟩

def EK0 : EKt := fun _ _ => False
def spF (K : Gx) (n : Nat) (f : List D → W D) : Sp := fun vs H Q _ => ∃ ds h, ds.length = n ∧ Reps K H vs ds ∧ HRel K H h ∧ (f ds).run h (fun d h' => ∀ v H', Ext K H H' → HRel K H' h' → Rep K H' v d → Q v H') EK0
variable {P : Program} {w : World} {mg : Str → Option Value} {base : Heap} {k : Nat} {g : Addr} {fd : FuncData} {ps : List Str} {dvs : List V} {dds : List D} {dus : List Value} {x : Str} {f : List D → W D} {n : Nat}
theorem de_callB {id : String} {rr : List V → Hp → VK → Prop} {o : List D → W D} (hc : CallR X (.builtin id) rr) (sm : SimL X.gx EK rr o) (hg : Gl X x) (hm : X.mg x = none) (hv : bootBuiltins x = some (.builtin id)) (ha : DA X EK r (e :: es) ms)
    (hn : x ≠ "__name__" := by decide +kernel) (hdb : (x == ("__debug__" : Str)) = false := by decide +kernel)
    (hs : starEach (e :: es) X.env = (false, eval e X.env) :: starEach es X.env := by rfl) (hpl : (backTo pos (starEach es X.env)).any (·.1) = false := by rfl) :
    DE X EK r (.Call (.Name x p) (e :: es) [] pos) (eCall o ms) :=
  ⟨pe_weak (pe_callB hc hg hm hv ha.pa hn hdb hs hpl) fun σ H Q x => glueA x fun ds h' vs H' e hr rp l hd run => sm H' h' vs ds Q hr rp run⟩
theorem de_callT {T : String} {rr : List V → Hp → VK → Prop} {o : List D → W D} (hc : CallR X (.type T) rr) (sm : SimL X.gx EK rr o) (hg : Gl X x) (hm : X.mg x = none) (hv : bootBuiltins x = some (.type T)) (ha : DA X EK r (e :: es) ms)
    (hn : x ≠ "__name__" := by decide +kernel) (hdb : (x == ("__debug__" : Str)) = false := by decide +kernel)
    (hs : starEach (e :: es) X.env = (false, eval e X.env) :: starEach es X.env := by rfl) (hpl : (backTo pos (starEach es X.env)).any (·.1) = false := by rfl) :
    DE X EK r (.Call (.Name x p) (e :: es) [] pos) (eCall o ms) :=
  ⟨pe_weak (pe_callTy hc hg hm hv ha.pa hn hdb hs hpl) fun σ H Q x => glueA x fun ds h' vs H' e hr rp l hd run => sm H' h' vs ds Q hr rp run⟩
end

inductive Pat where
  | nm
  | tp (ps : List Pat)
mutual
def Pat.flat : Pat → D → Option (List D)
  | .nm, d => some [d]
  | .tp ps, d => match d with
    | .tup xs => Pat.flats ps xs
    | .cl xs => Pat.flats ps xs
    | _ => none
def Pat.flats : List Pat → List D → Option (List D)
  | [], [] => some []
  | p :: ps, x :: xs => match Pat.flat p x, Pat.flats ps xs with
    | some a, some b => some (a ++ b)
    | _, _ => none
  | _, _ => none
end
@[reducible] def uP {α : Type} (p : Pat) (d : D) (k : List D → W α) : W α := ⟨fun h Q E => ∃ ds, p.flat d = some ds ∧ (k ds).run h Q E, fun g ⟨ds, a, b⟩ => ⟨ds, a, (k ds).mono g b⟩⟩
@[reducible] def u1 {α : Type} (p : Pat) (d : D) (k : D → W α) : W α := uP p d fun ds => k (ds.getD 0 .non)
@[reducible] def u2 {α : Type} (p : Pat) (d : D) (k : D → D → W α) : W α := uP p d fun ds => k (ds.getD 0 .non) (ds.getD 1 .non)
@[reducible] def u3 {α : Type} (p : Pat) (d : D) (k : D → D → D → W α) : W α := uP p d fun ds => k (ds.getD 0 .non) (ds.getD 1 .non) (ds.getD 2 .non)
mutual
def Pat.size : Pat → Nat
  | .nm => 1
  | .tp ps => Pat.sizes ps
def Pat.sizes : List Pat → Nat
  | [] => 0
  | p :: ps => Pat.size p + Pat.sizes ps
end
mutual
theorem Pat.flat_len : ∀ (p : Pat) (d : D) (ds : List D), p.flat d = some ds → ds.length = p.size
  | .nm, d, ds, h => by simp only [Pat.flat, Option.some.injEq] at h; rw [← h]; rfl
  | .tp ps, d, ds, h => by
    cases d with
    | tup xs => exact Pat.flats_len ps xs ds h
    | cl xs => exact Pat.flats_len ps xs ds h
    | _ => simp [Pat.flat] at h
theorem Pat.flats_len : ∀ (ps : List Pat) (xs ds : List D), Pat.flats ps xs = some ds → ds.length = Pat.sizes ps
  | [], xs, ds, h => by
    cases xs with
    | nil => simp only [Pat.flats, Option.some.injEq] at h; rw [← h]; rfl
    | cons x xs => simp [Pat.flats] at h
  | p :: ps, xs, ds, h => by
    cases xs with
    | nil => simp [Pat.flats] at h
    | cons x xs =>
      unfold Pat.flats at h
      cases q1 : p.flat x with
      | none => rw [q1] at h; simp at h
      | some a =>
        cases q2 : Pat.flats ps xs with
        | none => rw [q1, q2] at h; simp at h
        | some b =>
          rw [q1, q2] at h
          simp only [Option.some.injEq] at h
          rw [← h, List.length_append, Pat.flat_len p x a q1, Pat.flats_len ps xs b q2]
          rfl
end

def setV : L2.St → List Nat → List V → L2.St
  | σ, i :: is, v :: vs => setV (σ.set i (some v)) is vs
  | σ, _, _ => σ
def setD (ds : List D) : Lo → List Nat → Nat → Lo
  | r, [], _ => r
  | r, i :: is, k => setD ds (r.set i (some (ds.getD k .non))) is (k + 1)
theorem LRel.setV {K : Gx} {H : Hp} {ds0 : List D} : ∀ {is : List Nat} {vs : List V} {ds : List D} {r : Lo} {σ : L2.St} {k : Nat}, LRel K H r σ → Reps K H vs ds → is.length = vs.length → ds0.drop k = ds → LRel K H (setD ds0 r is k) (setV σ is vs)
  | [], [], _, r, σ, k, l, .nil, _, _ => l
  | i :: is, v :: vs, d :: ds, r, σ, k, l, .cons a b, e, q => by
    have hd : ds0.getD k .non = d := by
      have : ds0[k]? = some d := by
        have := congrArg (fun l : List D => l[0]?) q
        simpa using this
      simp [List.getD, this]
    show LRel K H (setD ds0 (r.set i (some (ds0.getD k .non))) is (k + 1)) (DL.setV (σ.set i (some v)) is vs)
    rw [hd]
    refine LRel.setV (l.set a) b (by simpa using e) ?_
    have := congrArg (fun l : List D => l.drop 1) q
    simpa [List.drop_drop, Nat.add_comm] using this
  | [], _ :: _, _, _, _, _, _, _, e, _ => by simp at e
  | _ :: _, [], _, _, _, _, _, _, e, _ => by simp at e
theorem setV_append : ∀ {is js : List Nat} {vs ws : List V} {σ : L2.St}, is.length = vs.length → setV σ (is ++ js) (vs ++ ws) = setV (setV σ is vs) js ws
  | [], _, [], _, _, _ => rfl
  | i :: is, js, v :: vs, ws, σ, e => by
    show setV (σ.set i (some v)) (is ++ js) (vs ++ ws) = setV (setV (σ.set i (some v)) is vs) js ws
    exact setV_append (by simpa using e)
  | [], _, _ :: _, _, _, e => by simp at e
  | _ :: _, _, [], _, _, e => by simp at e
def tP (K : Gx) (p : Pat) (is : List Nat) : TG := fun v σ H Q => ∃ d ds, Rep K H v d ∧ p.flat d = some ds ∧ ∀ vs, Reps K H vs ds → Q (setV σ is vs) H
def tPs (K : Gx) (ps : List Pat) (is : List Nat) : TGs := fun us σ H Q => ∃ xs ds, Reps K H us xs ∧ Pat.flats ps xs = some ds ∧ ∀ vs, Reps K H vs ds → Q (setV σ is vs) H
structure DG (X : Cx) (tg : Expr) (p : Pat) (is : List Nat) : Prop where
  pg : PG X tg (tP X.gx p is)
  len : is.length = p.size
structure DGs (X : Cx) (tgs : List Expr) (ps : List Pat) (is : List Nat) : Prop where
  pgs : PGs X tgs (tPs X.gx ps is)
  len : is.length = Pat.sizes ps
  num : tgs.length = ps.length
theorem pg_weak {X : Cx} {e : Expr} {t t' : TG} (h : PG X e t) (f : ∀ v σ H Q, t' v σ H Q → t v σ H Q) : PG X e t' := ⟨fun p s σ H v u Q I r x => h.run p s σ H v u Q I r (f _ _ _ _ x)⟩
theorem pgs_weak {X : Cx} {e : List Expr} {t t' : TGs} (h : PGs X e t) (f : ∀ v σ H Q, t' v σ H Q → t v σ H Q) : PGs X e t' := ⟨fun p s σ H v u Q I r x => h.run p s σ H v u Q I r (f _ _ _ _ x)⟩
theorem Pat.flats_num : ∀ (ps : List Pat) (xs ds : List D), Pat.flats ps xs = some ds → xs.length = ps.length
  | [], xs, ds, h => by cases xs with
    | nil => rfl
    | cons x xs => simp [Pat.flats] at h
  | p :: ps, xs, ds, h => by
    cases xs with
    | nil => simp [Pat.flats] at h
    | cons x xs =>
      unfold Pat.flats at h
      cases q2 : Pat.flats ps xs with
      | none => rw [q2] at h; simp at h
      | some b => rw [List.length_cons, List.length_cons, Pat.flats_num ps xs b q2]

section
variable {X : Cx} {pos : Pos} {x : Str} {e : Expr} {es : List Expr}
theorem dg_nm (i : Nat) (hN : X.N.Nodup) (hi : X.N[i]? = some x) (hx : Loc X.env.scope x) (hf : X.fn x = true ∨ X.env.scope.names.lookup x = some .local := by first | exact .inl rfl | exact .inr rfl | assumption) : DG X (.Name x pos) .nm [i] :=
  ⟨pg_weak (pg_name hN hi hx hf) fun v σ H Q ⟨d, ds, rp, e, q⟩ => by
    have e' : ds = [d] := by simpa [Pat.flat] using e.symm
    subst e'
    exact q [v] (.cons rp .nil), rfl⟩
theorem dgs_nil : DGs X [] [] [] := ⟨pgs_weak pgs_nil fun us σ H Q ⟨xs, ds, rp, e, q⟩ => by
    cases rp with
    | nil =>
      have e' : ds = [] := by simpa [Pat.flats] using e.symm
      subst e'
      exact ⟨rfl, q [] .nil⟩
    | cons a b => simp [Pat.flats] at e, rfl, rfl⟩
theorem dgs_cons {p : Pat} {ps : List Pat} {is js : List Nat} (ha : DG X e p is) (hb : DGs X es ps js) (hs : (assignEach (e :: es) X.env).map (·.2) = assign e X.env :: (assignEach es X.env).map (·.2) := by rfl) : DGs X (e :: es) (p :: ps) (is ++ js) := by
  refine ⟨pgs_weak (pgs_cons ha.pg hb.pgs hs) ?_, by rw [List.length_append, ha.len, hb.len]; rfl, by rw [List.length_cons, List.length_cons, hb.num]⟩
  rintro us σ H Q ⟨xs, ds, rp, e, q⟩
  cases rp with
  | nil => simp [Pat.flats] at e
  | @cons v d vs ds' a b =>
    unfold Pat.flats at e
    cases q1 : p.flat d with
    | none => rw [q1] at e; simp at e
    | some a1 =>
      cases q2 : Pat.flats ps ds' with
      | none => rw [q1, q2] at e; simp at e
      | some b1 =>
        rw [q1, q2] at e
        simp only [Option.some.injEq] at e
        subst e
        refine ⟨v, vs, rfl, d, a1, a, q1, fun vs1 r1 => ⟨ds', b1, b, q2, fun vs2 r2 => ?_⟩⟩
        rw [← setV_append (by rw [r1.length, Pat.flat_len p d a1 q1]; exact ha.len)]
        exact q _ (r1.append r2)
theorem dg_tp {ps : List Pat} {is : List Nat} {k : Nat} (hc : X.calm = true) (h : DGs X es ps is) (hn : (assignEach es X.env).length = es.length := by rfl) (hst : (assignEach es X.env).findIdx? (·.1) = none := by rfl) : DG X (.Tuple es k pos) (.tp ps) is := by
  refine ⟨⟨fun pins s σ H v u Q I rr hw => ?_⟩, h.len⟩
  obtain ⟨d, ds, rp, e, q⟩ := hw
  cases rp with
  | @tup a vs xs z r => exact (pg_tup hc h.pgs (n := es.length) hn hst).run pins s σ H _ u Q I rr ⟨a, vs, rfl, z.1, by rw [r.length, Pat.flats_num ps xs ds e, h.num], xs, ds, r, e, q⟩
  | @cl a vs xs z r => exact (pg_unl hc h.pgs (n := es.length) hn hst).run pins s σ H _ u Q I rr ⟨a, vs, rfl, SqF.list z, by rw [r.length, Pat.flats_num ps xs ds e, h.num], xs, ds, r, e, q⟩
  | _ => simp [Pat.flat] at e
end
end DL
namespace DL
open PySem L2

structure Src where
  xs : List D
  chk : DH → Prop
structure JSim (K : Gx) (H0 : Hp) (J : It) (s : Src) : Prop where
  go : ∀ i H h, Ext K H0 H → HRel K H h → s.chk h → i < s.xs.length → J.go i H
  yld : ∀ i H h x H', Ext K H0 H → HRel K H h → s.chk h → i < s.xs.length → J.yld i H x H' → Ext K H H' ∧ HRel K H' h ∧ ∃ d, s.xs[i]? = some d ∧ Rep K H' x d
  stop : ∀ i H h, Ext K H0 H → HRel K H h → s.chk h → i = s.xs.length → J.stop i H
def tI (K : Gx) (EK : EKt) (r : Lo) (m : W Src) : TI := fun σ H R => ∃ h, LRel K H r σ ∧ HRel K H h ∧ m.run h (fun s h' => ∀ J H', Ext K H H' → HRel K H' h' → JSim K H' J s → R J H') EK
structure DI (X : Cx) (EK : EKt) (r : Lo) (tg iter : Expr) (m : W Src) : Prop where
  pi : PI X tg iter (tI X.gx EK r m)
theorem pi_weak {X : Cx} {tg e : Expr} {t t' : TI} (h : PI X tg e t) (f : ∀ σ H R, t' σ H R → t σ H R) : PI X tg e t' := ⟨fun p s σ H R I x => h.run p s σ H R I (f _ _ _ x)⟩

section
variable {X : Cx} {EK : EKt} {r : Lo} {tg e : Expr} {m : W D} {pos p : Pos}
theorem glueI {K : Gx} {σ : L2.St} {H : Hp} {R : It → Hp → Prop} {k : D → W Src} (h : tI K EK r (m.bind k) σ H R) {Q : VK}
    (f : ∀ d h' v H', Ext K H H' → HRel K H' h' → Rep K H' v d → LRel K H' r σ → (k d).run h' (fun s h' => ∀ J H'', Ext K H' H'' → HRel K H'' h' → JSim K H'' J s → R J H'') EK → Q v H') :
    tE K EK r m σ H Q := by
  obtain ⟨h0, l, hr, run⟩ := h
  refine ⟨h0, l, hr, m.mono (fun d h' q v H' e hr' rp => f d h' v H' e hr' rp (l.mono e) ?_) run⟩
  exact (k d).mono (fun d2 h2 q2 J H2 e2 hr2 rp2 => q2 J H2 (e.trans e2) hr2 rp2) q
end

def rng (lo : Int) (n : Nat) (c : Int) : List D := (List.range n).map fun (i : Nat) => D.int (lo + (i : Int) * c)
def sRng (lo : Int) (n : Nat) (c : Int) : Src := ⟨rng lo n c, fun _ => True⟩
def iRange : List D → W Src
  | [.int j] => W.need (-(2 ^ 62) ≤ j ∧ j < 2 ^ 62) (W.pure (sRng 0 j.toNat 1))
  | [.int i, .int j] => W.need (-(2 ^ 62) ≤ i ∧ i < 2 ^ 62 ∧ -(2 ^ 62) ≤ j ∧ j < 2 ^ 62) (W.pure (sRng i (j - i).toNat 1))
  | _ => W.fail
theorem rng_get {lo : Int} {n i : Nat} {c : Int} (h : i < n) : (rng lo n c)[i]? = some (.int (lo + (i : Int) * c)) := by
  unfold rng
  rw [List.getElem?_map, List.getElem?_range h]; rfl
theorem rng_len {lo : Int} {n : Nat} {c : Int} : (rng lo n c).length = n := by unfold rng; simp
theorem jsim_rng {K : Gx} {H : Hp} (lo : Int) (n : Nat) : JSim K H (Itr lo n) (sRng lo n 1) :=
  ⟨fun i _ _ _ _ _ hi => by rw [show (sRng lo n 1).xs.length = n from rng_len] at hi; exact hi,
   fun i H1 h x H' e hr _ hi ⟨e1, e2⟩ => by
    rw [show (sRng lo n 1).xs.length = n from rng_len] at hi
    subst e1; subst e2
    exact ⟨Ext.refl, hr, _, rng_get hi, by rw [Int.mul_one]; exact .int _⟩,
   fun i _ _ _ _ _ hi => by rw [show (sRng lo n 1).xs.length = n from rng_len] at hi; exact Nat.le_of_eq hi.symm⟩
section
variable {X : Cx} {EK : EKt} {r : Lo} {tg a b c : Expr} {ma mb mc : W D} {pos p : Pos}
theorem reps1 {K : Gx} {H : Hp} {vs : List V} {d : D} (r : Reps K H vs [d]) : ∃ v, vs = [v] ∧ Rep K H v d := by
  cases r with | cons a t => cases t; exact ⟨_, rfl, a⟩
theorem reps2 {K : Gx} {H : Hp} {vs : List V} {d e : D} (r : Reps K H vs [d, e]) : ∃ v w, vs = [v, w] ∧ Rep K H v d ∧ Rep K H w e := by
  cases r with | cons a t => obtain ⟨w, e, q⟩ := reps1 t; exact ⟨_, w, by rw [e], a, q⟩
theorem reps3 {K : Gx} {H : Hp} {vs : List V} {d e f : D} (r : Reps K H vs [d, e, f]) : ∃ v w u, vs = [v, w, u] ∧ Rep K H v d ∧ Rep K H w e ∧ Rep K H u f := by
  cases r with | cons a t => obtain ⟨w, u, e, q1, q2⟩ := reps2 t; exact ⟨_, w, u, by rw [e], a, q1, q2⟩
theorem rep_int {K : Gx} {H : Hp} {v : V} {i : Int} (r : Rep K H v (.int i)) : v = .int i := by cases r; rfl
theorem rep_str {K : Gx} {H : Hp} {v : V} {i : Str} (r : Rep K H v (.str i)) : v = .str i := by cases r; rfl
theorem rep_bl {K : Gx} {H : Hp} {v : V} {i : Bool} (r : Rep K H v (.bl i)) : v = .bl i := by cases r; rfl
theorem rep_ref {K : Gx} {H : Hp} {v : V} {a : Addr} (r : Rep K H v (.ref a)) : v = .ref a := by cases r; rfl
theorem glueIA {K : Gx} {σ : L2.St} {H : Hp} {R : It → Hp → Prop} {ms : List (W D)} {k : List D → W Src} (h : tI K EK r ((eArgs ms).bind k) σ H R) {Q : List V → Hp → Prop}
    (f : ∀ d h' v H', Ext K H H' → HRel K H' h' → Reps K H' v d → LRel K H' r σ → d.length = ms.length → (k d).run h' (fun s h' => ∀ J H'', Ext K H' H'' → HRel K H'' h' → JSim K H'' J s → R J H'') EK → Q v H') :
    tA K EK r (eArgs ms) σ H Q := by
  obtain ⟨h0, l, hr, run⟩ := h
  refine ⟨h0, l, hr, (eArgs ms).mono (fun d h' ⟨hl, q⟩ v H' e hr' rp => f d h' v H' e hr' rp (l.mono e) hl ?_) (eArgs_len ms run)⟩
  exact (k d).mono (fun d2 h2 q2 J H2 e2 hr2 rp2 => q2 J H2 (e.trans e2) hr2 rp2) q
theorem di_range1 (hg : Gl X "range") (hm : X.mg "range" = none) (ha : DA X EK r [a] [ma]) (hs : starEach [a] X.env = [(false, eval a X.env)] := by rfl) : DI X EK r tg (.Call (.Name "range" p) [a] [] pos) ((eArgs [ma]).bind iRange) :=
  ⟨pi_weak (pi_range1 hg hm ha.pa hs) fun σ H R x => glueIA x fun d h' v H' e hr rp l hd run => by
    match d, hd, run with
    | [.int j], _, ⟨⟨h1, h2⟩, q⟩ =>
      obtain ⟨u, rfl, ru⟩ := reps1 rp
      rw [rep_int ru]
      exact ⟨j, rfl, h1, h2, q _ H' Ext.refl hr (jsim_rng 0 j.toNat)⟩⟩
end

@[reducible] def sThen {L C C' : Type} (a : W (Fl L C)) (k : C → W (Fl L C')) : W (Fl L C') := a.bind fun
  | .nx c => k c
  | .rt d => W.pure (.rt d)
  | .bk l => W.pure (.bk l)
  | .ct l => W.pure (.ct l)
@[reducible] def sNx {L C : Type} (c : C) : W (Fl L C) := W.pure (.nx c)
@[reducible] def sRt {L C : Type} (m : W D) : W (Fl L C) := m.bind fun d => W.pure (.rt d)
@[reducible] def fn (m : W (Fl Unit Unit)) : W D := m.bind fun
  | .nx _ => W.pure .non
  | .rt d => W.pure d
  | _ => W.fail

section
variable {X : Cx} {EK : EKt} {L C C' : Type} {Jn : C → Lo} {Jl : L → Lo} {r : Lo} {rest : List Stmt} {e : Expr} {m : W D} {pos : Pos}

theorem db_step {st : Stmt} {t : TS} {J1 : C' → Lo} {a : W (Fl L C')} {k : C' → W (Fl L C)} (h1 : PS X st t) (f : ∀ D σ H, tB X.gx EK r J1 Jl a D σ H → t D σ H)
    (h2 : ∀ c, DB X EK Jn Jl (J1 c) rest (k c)) : DB X EK Jn Jl r (st :: rest) (sThen a k) := by
  let u : TS := fun D σ H => ∃ c, tB X.gx EK (J1 c) Jn Jl (k c) D σ H
  have hu : PSs X rest u := ⟨fun p s σ H D I ⟨c, x⟩ => (h2 c).ps.run p s σ H D I x⟩
  refine ⟨pss_weak (pss_cons h1 hu) ?_⟩
  rintro D σ H ⟨h, l, hr, run⟩
  refine f { D with nx := u D } σ H ⟨h, l, hr, a.mono (fun fl h' q σ' H' e hr' => ?_) run⟩
  cases fl with
  | nx c =>
    intro l'
    exact ⟨c, h', l', hr', (k c).mono (fun fl2 h2 q2 σ2 H2 e2 hr2 => q2 σ2 H2 (e.trans e2) hr2) q⟩
  | rt d => exact q σ' H' e hr'
  | bk l => exact q σ' H' e hr'
  | ct l => exact q σ' H' e hr'
theorem db_nil {c : C} (h : Le (Jn c) r) : DB X EK Jn Jl r [] (sNx c) :=
  ⟨pss_weak pss_nil fun D σ H ⟨h0, l, hr, run⟩ => run σ H Ext.refl hr (l.le h)⟩
theorem db_last {st : Stmt} {t : TS} {a : W (Fl L C)} (h1 : PS X st t) (f : ∀ D σ H, tB X.gx EK r Jn Jl a D σ H → t D σ H) : DB X EK Jn Jl r [st] a := ⟨pss_weak (pss_one h1) f⟩
theorem db_end {st : Stmt} {t : TS} {a : W (Fl L C)} (h1 : PS X st t) (f : ∀ (D : Ends) σ H, tB X.gx EK r Jn Jl a { D with nx := fun _ _ => False } σ H → t { D with nx := fun _ _ => False } σ H) (g : ∀ h Q, a.run h Q EK → a.run h (fun fl h' => (∀ c, fl ≠ .nx c) ∧ Q fl h') EK) : DB X EK Jn Jl r (st :: rest) a := by
  refine ⟨⟨fun p s σ H D I x => ?_⟩⟩
  obtain ⟨h, l, hr, run⟩ := x
  refine wpAny_execs_cons (thn (h1.run p s σ H { D with nx := fun _ _ => False } I (f D σ H ⟨h, l, hr, a.mono (fun fl h' ⟨n, q⟩ σ' H' e hr' => ?_) (g h _ run)⟩)) fun fl s1 q => ?_)
  · cases fl with
    | next => obtain ⟨_, _, _, z⟩ := q; exact z.elim
    | brk => exact q
    | cont => exact q
    | ret v => exact q
  · cases fl with
    | nx c => exact absurd rfl (n c)
    | rt d => exact q σ' H' e hr'
    | bk l => exact q σ' H' e hr'
    | ct l => exact q σ' H' e hr'
theorem db_ret (he : DE X EK r e m) : DB X EK Jn Jl r (.Return (some e) pos :: rest) (sRt m) :=
  db_end (ps_ret he.pe) (fun D σ H ⟨h, l, hr, run⟩ => ⟨h, l, hr, m.mono (fun d h' q v H' e hr' rp => q σ H' e hr' v rp) run⟩) fun h Q x => m.mono (fun d h' q => ⟨fun c z => (nomatch z), q⟩) x
theorem db_let {x : Str} {pos' : Pos} {k : D → W (Fl L C)} (i : Nat) (hN : X.N.Nodup) (hi : X.N[i]? = some x) (hx : Loc X.env.scope x) (he : DE X EK r e m) (h2 : ∀ d, DB X EK Jn Jl (r.set i (some d)) rest (k d))
    (hs : swapsWith e (some (.Name x pos')) pos.line X.env = pure false := by rfl) (hf : X.fn x = true ∨ X.env.scope.names.lookup x = some .local := by first | exact .inl rfl | exact .inr rfl | assumption) :
    DB X EK Jn Jl r (.Assign [.Name x pos'] e pos :: rest) (m.bind k) := by
  let u : TS := fun D σ H => ∃ d, tB X.gx EK (r.set i (some d)) Jn Jl (k d) D σ H
  have hu : PSs X rest u := ⟨fun p s σ H D I ⟨c, x⟩ => (h2 c).ps.run p s σ H D I x⟩
  refine ⟨pss_weak (pss_cons (ps_set hN hi hx he.pe hs hf) hu) ?_⟩
  rintro D σ H ⟨h, l, hr, run⟩
  exact ⟨h, l, hr, m.mono (fun d h' q v H' e hr' rp => ⟨d, h', (l.mono e).set rp, hr', (k d).mono (fun fl2 h2 q2 σ2 H2 e2 hr2 => q2 σ2 H2 (e.trans e2) hr2) q⟩) run⟩
theorem db_asg {tg : Expr} {p : Pat} {is : List Nat} {k : List D → W (Fl L C)} (hg : DG X tg p is) (he : DE X EK r e m) (h2 : ∀ ds, DB X EK Jn Jl (setD ds r is 0) rest (k ds))
    (hs : swapsWithSole [tg] e pos.line X.env = pure false := by rfl) (hw : swappedStores [tg] e X.env = pure none := by rfl)
    (h1 : (assignEach [tg] X.env).map (·.2) = [assign tg X.env] := by rfl) : DB X EK Jn Jl r (.Assign [tg] e pos :: rest) (m.bind fun d => uP p d k) := by
  let u : TS := fun D σ H => ∃ d, tB X.gx EK (setD d r is 0) Jn Jl (k d) D σ H
  have hu : PSs X rest u := ⟨fun p s σ H D I ⟨c, x⟩ => (h2 c).ps.run p s σ H D I x⟩
  refine ⟨pss_weak (pss_cons (ps_asg he.pe hg.pg hs hw h1) hu) ?_⟩
  rintro D σ H ⟨h, l, hr, run⟩
  refine ⟨h, l, hr, m.mono ?_ run⟩
  rintro d h' ⟨ds, ef, q⟩ v H' e hr' rp
  refine ⟨d, ds, rp, ef, fun vs rv => ⟨ds, h', (l.mono e).setV (ds0 := ds) rv ?_ rfl, hr', (k ds).mono (fun fl2 h2 q2 σ2 H2 e2 hr2 => q2 σ2 H2 (e.trans e2) hr2) q⟩⟩
  rw [rv.length, Pat.flat_len p d ds ef, hg.len]
theorem db_par {x y : Str} {a b : Expr} {ma mb : W D} {px py pt : Pos} {kt k2 pt2} {k : D → D → W (Fl L C)} (i j : Nat) (hc : X.calm = true) (hN : X.N.Nodup) (hi : X.N[i]? = some x) (hj : X.N[j]? = some y) (hij : i ≠ j)
    (hx : X.env.scope.names.lookup x = some .local) (hy : X.env.scope.names.lookup y = some .local) (ha : DA X EK r [a, b] [ma, mb]) (h2 : ∀ c d, DB X EK Jn Jl ((r.set i (some c)).set j (some d)) rest (k c d))
    (hw : swappedStores [.Tuple [.Name x px, .Name y py] kt pt] (.Tuple [a, b] k2 pt2) X.env = pure (some [x, y]))
    (hs : swapsWithSole [.Tuple [.Name x px, .Name y py] kt pt] (.Tuple [a, b] k2 pt2) pos.line X.env = pure false := by rfl) :
    DB X EK Jn Jl r (.Assign [.Tuple [.Name x px, .Name y py] kt pt] (.Tuple [a, b] k2 pt2) pos :: rest) (ma.bind fun c => mb.bind fun d => k c d) := by
  let u : TS := fun D σ H => ∃ c d, tB X.gx EK ((r.set i (some c)).set j (some d)) Jn Jl (k c d) D σ H
  have hu : PSs X rest u := ⟨fun p s σ H D I ⟨c, d, x⟩ => (h2 c d).ps.run p s σ H D I x⟩
  refine ⟨pss_weak (pss_cons (ps_par hc hN hi hj hij hx hy ha.pa hw hs) hu) ?_⟩
  rintro D σ H ⟨h, l, hr, run⟩
  refine ⟨h, l, hr, ma.mono (fun c h1 run1 => mb.mono (fun d h2 q vs H' e hr' rp => ?_) run1) run⟩
  obtain ⟨v, w, rfl, rv, rw'⟩ := reps2 rp
  exact ⟨v, w, rfl, c, d, h2, ((l.mono e).set rv).set rw', hr', (k c d).mono (fun fl2 h2 q2 σ2 H2 e2 hr2 => q2 σ2 H2 (e.trans e2) hr2) q⟩
theorem db_expr {k : W (Fl L C)} (he : DE X EK r e m) (h2 : DB X EK Jn Jl r rest k) (hs : swapsWith e none pos.line X.env = pure false := by rfl) : DB X EK Jn Jl r (.Expr e pos :: rest) (m.bind fun _ => k) :=
  ⟨pss_weak (pss_cons (ps_expr he.pe hs) h2.ps) fun D σ H ⟨h, l, hr, run⟩ => ⟨h, l, hr, m.mono (fun d h' q v H' e hr' rp => ⟨h', l.mono e, hr', k.mono (fun fl2 h2 q2 σ2 H2 e2 hr2 => q2 σ2 H2 (e.trans e2) hr2) q⟩) run⟩⟩
theorem ps_ifD {c : Expr} {A B : List Stmt} {tc : W Bool} {a b : W (Fl L C)} (hc : DT X EK r c tc) (ha : DB X EK Jn Jl r A a) (hb : DB X EK Jn Jl r B b) : PS X (.If c A B pos) (tB X.gx EK r Jn Jl (wIte tc a b)) :=
  ps_weak (ps_if hc.pt ha.ps hb.ps) fun D σ H ⟨h, l, hr, run⟩ => ⟨h, l, hr, tc.mono (fun k h1 q H' e hr' => by
    cases k with
    | true => exact ⟨h1, l.mono e, hr', a.mono (fun fl2 h2 q2 σ2 H2 e2 hr2 => q2 σ2 H2 (e.trans e2) hr2) q⟩
    | false => exact ⟨h1, l.mono e, hr', b.mono (fun fl2 h2 q2 σ2 H2 e2 hr2 => q2 σ2 H2 (e.trans e2) hr2) q⟩) (ite_run run)⟩
theorem db_if {c : Expr} {A B : List Stmt} {tc : W Bool} {J1 : C' → Lo} {a b : W (Fl L C')} {k : C' → W (Fl L C)} (hc : DT X EK r c tc) (ha : DB X EK J1 Jl r A a) (hb : DB X EK J1 Jl r B b) (h2 : ∀ c, DB X EK Jn Jl (J1 c) rest (k c)) :
    DB X EK Jn Jl r (.If c A B pos :: rest) (sThen (wIte tc a b) k) := db_step (ps_ifD hc ha hb) (fun _ _ _ x => x) h2
theorem db_ifL {c : Expr} {A B : List Stmt} {tc : W Bool} {a b : W (Fl L C)} (hc : DT X EK r c tc) (ha : DB X EK Jn Jl r A a) (hb : DB X EK Jn Jl r B b) :
    DB X EK Jn Jl r [.If c A B pos] (wIte tc a b) := db_last (ps_ifD hc ha hb) (fun _ _ _ x => x)
end

@[reducible] def turnW {L L' : Type} (m : W (Fl L L)) (k : L → W (Fl L' L)) : W (Fl L' L) := m.bind fun
  | .nx c => k c
  | .ct c => k c
  | .bk c => W.pure (.nx c)
  | .rt d => W.pure (.rt d)
@[reducible] def chkW {α : Type} (p : DH → Prop) (m : W α) : W α := ⟨fun h Q E => p h ∧ m.run h Q E, fun g ⟨a, b⟩ => ⟨a, m.mono g b⟩⟩
def forW {L L' : Type} (chk : DH → Prop) (body : D → L → W (Fl L L)) : List D → L → W (Fl L' L)
  | [], c => chkW chk (W.pure (.nx c))
  | x :: xs, c => chkW chk (turnW (body x c) (forW chk body xs))
@[reducible] def sFor {L L' : Type} (src : W Src) (body : D → L → W (Fl L L)) (c : L) : W (Fl L' L) := src.bind fun s => forW s.chk body s.xs c
def whileW {L L' : Type} (t : L → W Bool) (body : L → W (Fl L L)) : Nat → L → W (Fl L' L)
  | 0, _ => W.fail
  | n + 1, c => wIte (t c) (turnW (body c) (whileW t body n)) (W.pure (.nx c))
@[reducible] def sWhile {L L' : Type} (t : L → W Bool) (body : L → W (Fl L L)) (c : L) : W (Fl L' L) := ⟨fun h Q E => ∃ n, (whileW t body n c).run h Q E, fun g ⟨n, x⟩ => ⟨n, (whileW t body n c).mono g x⟩⟩

section
variable {X : Cx} {EK : EKt} {L C L' : Type} {Jn : C → Lo} {Jl : L' → Lo} {Jh : L → Lo} {r : Lo} {rest : List Stmt} {pos : Pos}
theorem ps_forD {tg iter : Expr} {body : List Stmt} {src : W Src} {p : Pat} {is : List Nat} {b : List D → L → W (Fl L L)} {c0 : L} (hp : PassesOwn (model X.prog X.w) X.A X.env X.xe) (hc : X.calm = true) (hi : DI X EK r tg iter src) (hg : DG X tg p is)
    (hb : ∀ ds c, DB X EK Jh Jh (setD ds (Jh c) is 0) body (b ds c)) (h0 : Le (Jh c0) r) (hs : ∀ x, foldedSetIterable iter X.env x = pure x := by intro _; rfl) :
    PS X (.For tg iter body [] pos) (tB X.gx EK r Jh Jl (sFor src (fun d c => uP p d fun ds => b ds c) c0)) := by
  let tb : TS := fun D σ H => ∃ ds c, tB X.gx EK (setD ds (Jh c) is 0) Jh Jh (b ds c) D σ H
  have hb' : PSs X body tb := ⟨fun p s σ H D I ⟨ds, c, x⟩ => (hb ds c).ps.run p s σ H D I x⟩
  refine ps_weak (ps_for hp hc hi.pi hg.pg hb' hs) ?_
  rintro D σ H ⟨h, l, hr, run⟩
  refine ⟨h, l, hr, src.mono (fun s h1 run1 J H1 e1 hr1 js => ?_) run⟩
  refine ⟨fun i m σ' H' => (m = s.xs.length - i ∧ i ≤ s.xs.length) ∧ Ext X.gx H1 H' ∧ ∃ c h', LRel X.gx H' (Jh c) σ' ∧ HRel X.gx H' h' ∧ (forW s.chk (fun d c => uP p d fun ds => b ds c) (s.xs.drop i) c).run h' (fun fl h' => ∀ σ' H', Ext X.gx H H' → HRel X.gx H' h' → FlEnd X.gx Jh Jl D σ' H' fl) EK, ?_, ?_⟩
  · exact ⟨_, ⟨rfl, Nat.zero_le _⟩, Ext.refl, c0, h1, (l.mono e1).le h0, hr1, by rw [List.drop_zero]; exact run1⟩
  · rintro i m σ' H' ⟨⟨rfl, hle⟩, e', c, h', l', hr', run'⟩
    by_cases hi : i < s.xs.length
    · right
      rw [List.drop_eq_getElem_cons hi] at run'
      obtain ⟨ck, run'⟩ := run'
      refine ⟨js.go i H' h' e' hr' ck hi, fun σ2 H2 => Ext X.gx H1 H2 ∧ ∃ c h', LRel X.gx H2 (Jh c) σ2 ∧ HRel X.gx H2 h' ∧ (forW s.chk (fun d c => uP p d fun ds => b ds c) (s.xs.drop (i + 1)) c).run h' (fun fl h' => ∀ σ' H', Ext X.gx H H' → HRel X.gx H' h' → FlEnd X.gx Jh Jl D σ' H' fl) EK, ?_, ?_⟩
      · rintro σ2 H2 ⟨e2, x⟩
        exact ⟨_, by omega, ⟨rfl, hi⟩, e2, x⟩
      · intro x H2 y
        obtain ⟨e2, hr2, d, hd, rd⟩ := js.yld i H' h' x H2 e' hr' ck hi y
        have hd' : s.xs[i] = d := by
          rw [List.getElem?_eq_getElem hi] at hd
          exact Option.some.inj hd
        rw [hd'] at run'
        obtain ⟨ds, ef, run'⟩ := run'
        refine ⟨d, ds, rd, ef, fun vs rv => ⟨ds, c, h', (l'.mono e2).setV (ds0 := ds) rv ?_ rfl, hr2, (b ds c).mono ?_ run'⟩⟩
        · rw [rv.length, Pat.flat_len p d ds ef, hg.len]
        · intro fl h3 q σ3 H3 e3 hr3
          cases fl with
          | nx c' => intro l3; exact ⟨e'.trans (e2.trans e3), c', h3, l3, hr3, q⟩
          | ct c' => intro l3; exact ⟨e'.trans (e2.trans e3), c', h3, l3, hr3, q⟩
          | bk c' => intro l3; exact q σ3 H3 (e1.trans (e'.trans (e2.trans e3))) hr3 l3
          | rt d => exact q σ3 H3 (e1.trans (e'.trans (e2.trans e3))) hr3
    · left
      rw [List.drop_eq_nil_of_le (Nat.le_of_not_lt hi)] at run'
      obtain ⟨ck, run'⟩ := run'
      exact ⟨js.stop i H' h' e' hr' ck (Nat.le_antisymm hle (Nat.le_of_not_lt hi)), run' σ' H' (e1.trans e') hr' l'⟩
theorem db_for {tg iter : Expr} {body : List Stmt} {src : W Src} {p : Pat} {is : List Nat} {b : List D → L → W (Fl L L)} {c0 : L} {k : L → W (Fl L' C)} (hp : PassesOwn (model X.prog X.w) X.A X.env X.xe) (hc : X.calm = true) (hi : DI X EK r tg iter src) (hg : DG X tg p is)
    (hb : ∀ ds c, DB X EK Jh Jh (setD ds (Jh c) is 0) body (b ds c)) (h0 : Le (Jh c0) r) (h2 : ∀ c, DB X EK Jn Jl (Jh c) rest (k c)) (hs : ∀ x, foldedSetIterable iter X.env x = pure x := by intro _; rfl) :
    DB X EK Jn Jl r (.For tg iter body [] pos :: rest) (sThen (sFor src (fun d c => uP p d fun ds => b ds c) c0) k) :=
  db_step (ps_forD (Jl := Jl) hp hc hi hg hb h0 hs) (fun _ _ _ x => x) h2
theorem ps_whileD {c : Expr} {body : List Stmt} {t : L → W Bool} {b : L → W (Fl L L)} {c0 : L} (hp : PassesOwn (model X.prog X.w) X.A X.env X.xe) (ht : ∀ l, DT X EK (Jh l) c (t l)) (hb : ∀ l, DB X EK Jh Jh (Jh l) body (b l)) (h0 : Le (Jh c0) r) :
    PS X (.While c body [] pos) (tB X.gx EK r Jh Jl (sWhile t b c0)) := by
  let tb : TS := fun D σ H => ∃ c, tB X.gx EK (Jh c) Jh Jh (b c) D σ H
  let tc : TT := fun σ H Q => ∃ c, tT X.gx EK (Jh c) (t c) σ H Q
  have hb' : PSs X body tb := ⟨fun p s σ H D I ⟨c, x⟩ => (hb c).ps.run p s σ H D I x⟩
  have hc' : PT X c tc := ⟨fun p s σ H Q I ⟨c, x⟩ => (ht c).pt.run p s σ H Q I x⟩
  refine ps_weak (ps_while hp hc' hb') ?_
  rintro D σ H ⟨h, l, hr, n, run⟩
  refine ⟨fun m σ' H' => Ext X.gx H H' ∧ ∃ c h', LRel X.gx H' (Jh c) σ' ∧ HRel X.gx H' h' ∧ (whileW t b m c).run h' (fun fl h' => ∀ σ' H', Ext X.gx H H' → HRel X.gx H' h' → FlEnd X.gx Jh Jl D σ' H' fl) EK, ⟨n, Ext.refl, c0, h, l.le h0, hr, run⟩, ?_⟩
  rintro m σ' H' ⟨e', c, h', l', hr', run'⟩
  cases m with
  | zero => exact run'.elim
  | succ m =>
    obtain run' := (show (wIte (t c) (turnW (b c) (whileW t b m)) (W.pure (.nx c))).run h' _ EK from run')
    refine ⟨c, h', l', hr', (t c).mono (fun k h1 qq => ?_) run'⟩
    obtain ⟨q1, q2⟩ := qq
    intro H2 e2 hr2
    cases k with
    | true =>
      rw [if_pos rfl]
      refine ⟨fun σ2 H2 => Ext X.gx H H2 ∧ ∃ c h', LRel X.gx H2 (Jh c) σ2 ∧ HRel X.gx H2 h' ∧ (whileW t b m c).run h' (fun fl h' => ∀ σ' H', Ext X.gx H H' → HRel X.gx H' h' → FlEnd X.gx Jh Jl D σ' H' fl) EK, ?_, ?_⟩
      · rintro σ2 H2 x
        exact ⟨m, Nat.lt_succ_self m, x⟩
      · refine ⟨c, h1, l'.mono e2, hr2, (b c).mono ?_ (q1 rfl)⟩
        intro fl h3 q σ3 H3 e3 hr3
        cases fl with
        | nx c' => intro l3; exact ⟨e'.trans (e2.trans e3), c', h3, l3, hr3, q⟩
        | ct c' => intro l3; exact ⟨e'.trans (e2.trans e3), c', h3, l3, hr3, q⟩
        | bk c' => intro l3; exact q σ3 H3 (e'.trans (e2.trans e3)) hr3 l3
        | rt d => exact q σ3 H3 (e'.trans (e2.trans e3)) hr3
    | false =>
      rw [if_neg Bool.false_ne_true]
      exact q2 rfl σ' H2 (e'.trans e2) hr2 (l'.mono e2)
theorem db_while {c : Expr} {body : List Stmt} {t : L → W Bool} {b : L → W (Fl L L)} {c0 : L} {k : L → W (Fl L' C)} (hp : PassesOwn (model X.prog X.w) X.A X.env X.xe) (ht : ∀ l, DT X EK (Jh l) c (t l)) (hb : ∀ l, DB X EK Jh Jh (Jh l) body (b l)) (h0 : Le (Jh c0) r)
    (h2 : ∀ c, DB X EK Jn Jl (Jh c) rest (k c)) : DB X EK Jn Jl r (.While c body [] pos :: rest) (sThen (sWhile t b c0) k) :=
  db_step (ps_whileD (Jl := Jl) hp ht hb h0) (fun _ _ _ x => x) h2
end
end DL
namespace DL
open PySem L2

def LstI (h : DH) (d : D) (xs : List D) : Prop := match d with
  | .cl ys => xs = ys
  | .ref a => h a = some (.lst xs)
  | _ => False
theorem LstI.rep {K : Gx} {H : Hp} {h : DH} {y : V} {e : D} {xs : List D} (hr : HRel K H h) (ry : Rep K H y e) (i : LstI h e xs) : ∃ p vs, y = .ref p ∧ SqR K.K H p vs ∧ Reps K H vs xs := by
  cases e with
  | cl ys =>
    cases ry with
    | cl s rr => have i' : xs = ys := i; subst i'; exact ⟨_, _, rfl, .inr s, rr⟩
  | ref a =>
    obtain ⟨vs, hv, rr⟩ := hr a _ i
    cases ry
    exact ⟨a, vs, rfl, .inl hv, rr⟩
  | _ => exact (show False from i).elim
section
variable {X : Cx}
def rCatR (K : PySem.W.Frag) : R2 := fun x y H Q => ∃ l b xs zs, x = .ref l ∧ y = .ref b ∧ SqR K H l xs ∧ SqR K H b zs ∧ xs.length + zs.length ≤ sizeLine ∧ ∀ p, H p = none → Q (.ref p) (L2.upd H p (.lst (xs ++ zs)))
theorem op_catR : OpR X (binaryOp .Add) (rCatR X.K) := by
  intro pins t σ H x y v u Q I rx ry hyp
  obtain ⟨l, b, xs, zs, rfl, rfl, s1, s2, hz, q⟩ := hyp
  cases rx
  cases ry
  obtain ⟨i1, n1, z1, r1, l1, e1⟩ := s1.exact I
  obtain ⟨i2, n2, z2, r2, l2, e2⟩ := s2.exact I
  refine PySem.P.add_list e1 e2 ?_ (by simp only [List.size_toArray]; omega)
  rw [show i1.toArray ++ i2.toArray = (i1 ++ i2).toArray by simp]
  exact ⟨.ref _, _, I.lnew (t' := t.toks) (r1.append r2) (by rw [List.length_append]; omega), rfl, q _ I.fresh⟩
end
def opAdd : D → D → W D
  | .int i, .int j => W.pure (.int (i + j))
  | .str x, .str y => W.need (x.length + y.length ≤ sizeLine) (W.pure (.str (x ++ y)))
  | .tup xs, .tup ys => W.need (xs ≠ [] ∧ xs.length + ys.length ≤ sizeLine) (W.pure (.tup (xs ++ ys)))
  | d, e => ⟨fun h Q _ => ∃ xs ys, LstI h d xs ∧ LstI h e ys ∧ xs.length + ys.length ≤ sizeLine ∧ ∀ p, h p = none → Q (.ref p) (h.upd p (.lst (xs ++ ys))), fun g ⟨xs, ys, p, q, z, k⟩ => ⟨xs, ys, p, q, z, fun p hp => g _ _ (k p hp)⟩⟩
def opSub : D → D → W D
  | .int i, .int j => W.pure (.int (i - j))
  | _, _ => W.fail
def opMod : D → D → W D
  | .int i, .int j => W.need (0 < j) (W.pure (.int (i % j)))
  | _, _ => W.fail
def opFdiv : D → D → W D
  | .int i, .int j => W.need (CDiv i j) (W.pure (.int (i / j)))
  | _, _ => W.fail
def opPow : D → D → W D
  | .int i, .int j => W.need (CPow i j) (W.pure (.int (i ^ j.toNat)))
  | _, _ => W.fail
def opNeg : D → W D
  | .int i => W.pure (.int (-i))
  | _ => W.fail
def rAddA (K : PySem.W.Frag) : R2 := fun x y H Q => rI0 (fun i j => .int (i + j)) x y H Q ∨ (∃ i j, x = .str i ∧ y = .str j ∧ i.length + j.length ≤ sizeLine ∧ Q (.str (i ++ j)) H) ∨ rCatF K x y H Q ∨ rCatR K x y H Q
section
variable {X : Cx} {EK : EKt} {K : Gx}
theorem o_add : OpR X (binaryOp .Add) (rAddA X.K) := op_add.or (op_add_str.or (op_catF.or op_catR))
theorem s_add : Sim2 K EK (rAddA K.K) opAdd := fun H h x y d e Q hr rx ry run => by
  unfold opAdd at run
  split at run
  · rw [rep_int rx, rep_int ry]
    exact .inl ⟨_, _, rfl, rfl, run _ H Ext.refl hr (.int _)⟩
  · rw [rep_str rx, rep_str ry]
    exact .inr (.inl ⟨_, _, rfl, rfl, run.1, run.2 _ H Ext.refl hr (.str _)⟩)
  · obtain ⟨⟨n, z⟩, run⟩ := run
    cases rx with
    | @tup a vs _ s rr =>
      cases ry with
      | @tup b ws _ s' rr' =>
        refine .inr (.inr (.inl ⟨a, b, vs, ws, rfl, rfl, s.1, s'.1, by rw [rr.length, rr'.length]; exact z, fun e => absurd ?_ n, fun _ e => ?_, fun _ _ p o hp ho => ?_⟩))
        · subst e; cases rr; rfl
        · subst e; cases rr'; rw [List.append_nil] at run; exact run _ H Ext.refl hr (.tup s rr)
        · exact run _ _ (Ext.laid hp) (hr.under hp) (.tup (SqP.of ho) ((rr.append rr').mono (Ext.laid hp)))
  · obtain ⟨xs, ys, i1, i2, z, run⟩ := run
    obtain ⟨p, vs, e1, s1, rr⟩ := i1.rep hr rx
    obtain ⟨q, ws, e2, s2, rr'⟩ := i2.rep hr ry
    exact .inr (.inr (.inr ⟨p, q, vs, ws, e1, e2, s1, s2, by rw [rr.length, rr'.length]; exact z, fun p hp =>
      run p (hr.none hp) _ _ (Ext.laid hp) (hr.laid hp ⟨_, upd_same, (rr.append rr').mono (Ext.laid hp)⟩) (.ref p)⟩))
theorem s_sub : Sim2 K EK (rI0 fun i j => .int (i - j)) opSub := fun H h x y d e Q hr rx ry run => by
  match d, e, run with
  | .int i, .int j, run =>
    rw [rep_int rx, rep_int ry]
    exact ⟨i, j, rfl, rfl, run _ H Ext.refl hr (.int _)⟩
theorem reps_rep {H : Hp} {vs : List V} {xs : List D} (r : Reps K H vs xs) : ∀ k : Nat, Reps K H (List.replicate k vs).flatten (List.replicate k xs).flatten
  | 0 => by simpa using Reps.nil
  | k + 1 => by rw [List.replicate_succ, List.replicate_succ, List.flatten_cons, List.flatten_cons]; exact r.append (reps_rep r k)
theorem s_mod : Sim2 K EK (rI (fun _ j => 0 < j) fun i j => .int (i % j)) opMod := fun H h x y d e Q hr rx ry run => by
  match d, e, run with
  | .int i, .int j, run =>
    rw [rep_int rx, rep_int ry]
    exact ⟨i, j, rfl, rfl, run.1, run.2 _ H Ext.refl hr (.int _)⟩
theorem s_fdiv : Sim2 K EK (rI CDiv fun i j => .int (i / j)) opFdiv := fun H h x y d e Q hr rx ry run => by
  match d, e, run with
  | .int i, .int j, run =>
    rw [rep_int rx, rep_int ry]
    exact ⟨i, j, rfl, rfl, run.1, run.2 _ H Ext.refl hr (.int _)⟩
theorem s_pow : Sim2 K EK (rI CPow fun i j => .int (i ^ j.toNat)) opPow := fun H h x y d e Q hr rx ry run => by
  match d, e, run with
  | .int i, .int j, run =>
    rw [rep_int rx, rep_int ry]
    exact ⟨i, j, rfl, rfl, run.1, run.2 _ H Ext.refl hr (.int _)⟩
theorem s_neg : Sim1 K EK (rU fun i => .int (-i)) opNeg := fun H h x d Q hr rx run => by
  match d, run with
  | .int i, run =>
    rw [rep_int rx]
    exact ⟨i, rfl, run _ H Ext.refl hr (.int _)⟩
end

def eqS : D → D → Option Bool
  | .non, .non => some true | .non, .int _ => some false | .int _, .non => some false | .non, .bl _ => some false | .bl _, .non => some false | .non, .str _ => some false | .str _, .non => some false
  | .int i, .int j => some (decide (i = j)) | .bl a, .bl b => some (decide (a = b)) | .str x, .str y => some (decide (x = y))
  | .int _, .str _ => some false | .str _, .int _ => some false | .bl _, .str _ => some false | .str _, .bl _ => some false
  | _, _ => none
mutual
inductive PyR (h : DH) : D → PyData → Prop
  | non : PyR h .non .none
  | bl {b : Bool} : PyR h (.bl b) (.bool b)
  | int {i : Int} : PyR h (.int i) (.int i)
  | str {x : Str} : PyR h (.str x) (.str x)
  | tup {ds : List D} {ps : List PyData} : PyRs h ds ps → PyR h (.tup ds) (.tuple ps)
  | cl {ds : List D} {ps : List PyData} : PyRs h ds ps → PyR h (.cl ds) (.list ps)
  | lst {a : Addr} {ds : List D} {ps : List PyData} : h a = some (.lst ds) → PyRs h ds ps → PyR h (.ref a) (.list ps)
inductive PyRs (h : DH) : List D → List PyData → Prop
  | nil : PyRs h [] []
  | cons {d : D} {p : PyData} {ds : List D} {ps : List PyData} : PyR h d p → PyRs h ds ps → PyRs h (d :: ds) (p :: ps)
end
mutual
theorem PyR.dp {K : Gx} {H : Hp} {h : DH} (hr : HRel K H h) : ∀ {v : V} {d : D} {p : PyData}, Rep K H v d → PyR h d p → Dp K.K H v p
  | _, _, _, r, .non => by cases r; exact .non
  | _, _, _, r, .bl => by cases r; exact .bl _
  | _, _, _, r, .int => by cases r; exact .int _
  | _, _, _, r, .str => by cases r; exact .str _
  | _, _, _, r, .tup q => by cases r with | tup s rr => exact .tup s.1 (PyRs.dp hr rr q)
  | _, _, _, r, .cl q => by cases r with | cl s rr => exact .lst s.list (PyRs.dp hr rr q)
  | _, _, _, r, .lst e q => by
    cases r
    obtain ⟨vs, hv, rr⟩ := hr _ _ e
    exact .lst (SqL.of hv) (PyRs.dp hr rr q)
theorem PyRs.dp {K : Gx} {H : Hp} {h : DH} (hr : HRel K H h) : ∀ {vs : List V} {ds : List D} {ps : List PyData}, Reps K H vs ds → PyRs h ds ps → DpAll K.K H vs ps
  | _, _, _, r, .nil => by cases r; exact .nil
  | _, _, _, r, .cons a b => by cases r with | cons x y => exact .cons (PyR.dp hr x a) (PyRs.dp hr y b)
end
def opEq (d e : D) : W Bool := match eqS d e with
  | some b => W.pure b
  | none => ⟨fun h Q _ => ∃ p q, PyR h d p ∧ PyR h e q ∧ SeqAt.shaped p = true ∧ SeqAt.shaped q = true ∧ Q (PyData.eqv p q) h, fun g ⟨p, q, a, b, c, z, k⟩ => ⟨p, q, a, b, c, z, g _ _ k⟩⟩
@[reducible] def opNe (d e : D) : W Bool := (opEq d e).bind fun b => W.pure (!b)
section
variable {X : Cx} {EK : EKt} {K : Gx}
theorem eqS_scal {H : Hp} {d e : D} {x y : V} {b : Bool} (rx : Rep K H x d) (ry : Rep K H y e) (h : eqS d e = some b) : scal x y = true ∧ decide (x = y) = b := by
  cases d <;> cases e <;> simp only [eqS, Option.some.injEq, reduceCtorEq] at h <;> cases rx <;> cases ry <;> refine ⟨rfl, ?_⟩ <;> simp [← h]
def rEqA (K : PySem.W.Frag) : R2 := fun x y H Q => rEq x y H Q ∨ rEqD K x y H Q
def rNeA (K : PySem.W.Frag) : R2 := fun x y H Q => rNe x y H Q ∨ rNeD K x y H Q
theorem o_eq (hu : X.A.units + 64 < cLine) : OpR X (compareOp .Eq) (rEqA X.K) := op_eq.or (op_eqD hu)
theorem o_ne (hu : X.A.units + 64 < cLine) : OpR X (compareOp .NotEq) (rNeA X.K) := op_ne.or (op_neD hu)
theorem s_eq : SimC K EK (rEqA K.K) opEq := fun H h x y d e Q hr rx ry run => by
  unfold opEq at run
  split at run
  · rename_i b hb
    obtain ⟨h1, h2⟩ := eqS_scal rx ry hb
    exact .inl ⟨h1, by rw [h2]; exact run H Ext.refl hr⟩
  · obtain ⟨p, q, a, b, c, z, k⟩ := run
    exact .inr ⟨p, q, PyR.dp hr rx a, PyR.dp hr ry b, c, z, k H Ext.refl hr⟩
theorem s_ne : SimC K EK (rNeA K.K) opNe := fun H h x y d e Q hr rx ry run => by
  unfold opNe opEq at run
  simp only at run
  split at run
  · rename_i b hb
    obtain ⟨h1, h2⟩ := eqS_scal rx ry hb
    exact .inl ⟨h1, by rw [h2]; exact run H Ext.refl hr⟩
  · obtain ⟨p, q, a, b, c, z, k⟩ := run
    exact .inr ⟨p, q, PyR.dp hr rx a, PyR.dp hr ry b, c, z, k H Ext.refl hr⟩
def opLt : D → D → W Bool
  | .int i, .int j => W.pure (decide (i < j))
  | .str i, .str j => W.pure (decide (i.cps.toList < j.cps.toList))
  | _, _ => W.fail
def opGt : D → D → W Bool
  | .int i, .int j => W.pure (decide (j < i))
  | _, _ => W.fail
def opGe : D → D → W Bool
  | .int i, .int j => W.pure (decide (j ≤ i))
  | _, _ => W.fail
def rLtA : R2 := fun x y H Q => rI0 (fun i j => .bl (decide (i < j))) x y H Q ∨ (∃ i j, x = .str i ∧ y = .str j ∧ Q (.bl (decide (i.cps.toList < j.cps.toList))) H)
theorem o_lt : OpR X (compareOp .Lt) rLtA := op_lt.or op_lt_str
theorem s_lt : SimC K EK rLtA opLt := fun H h x y d e Q hr rx ry run => by
  match d, e, run with
  | .int i, .int j, run => rw [rep_int rx, rep_int ry]; exact .inl ⟨i, j, rfl, rfl, run H Ext.refl hr⟩
  | .str i, .str j, run => rw [rep_str rx, rep_str ry]; exact .inr ⟨i, j, rfl, rfl, run H Ext.refl hr⟩
theorem s_gt : SimC K EK (rI0 fun i j => .bl (decide (j < i))) opGt := fun H h x y d e Q hr rx ry run => by
  match d, e, run with
  | .int i, .int j, run => rw [rep_int rx, rep_int ry]; exact ⟨i, j, rfl, rfl, run H Ext.refl hr⟩
theorem s_ge : SimC K EK (rI0 fun i j => .bl (decide (j ≤ i))) opGe := fun H h x y d e Q hr rx ry run => by
  match d, e, run with
  | .int i, .int j, run => rw [rep_int rx, rep_int ry]; exact ⟨i, j, rfl, rfl, run H Ext.refl hr⟩
def flat : D → Bool
  | .non => true | .bl _ => true | .int _ => true | .str _ => true | _ => false
def eqF : D → D → Bool
  | .non, .non => true
  | .bl a, .bl b => a == b
  | .bl a, .int b => (if a then 1 else 0) == b
  | .int a, .bl b => a == (if b then 1 else 0)
  | .int a, .int b => a == b
  | .str a, .str b => a == b
  | _, _ => false
def inF (x : D) (xs : List D) : Bool := xs.any fun y => eqF y x
def Items (h : DH) (d : D) (xs : List D) : Prop := match d with
  | .tup ys => xs = ys
  | .cl ys => xs = ys
  | .ref a => h a = some (.lst xs)
  | _ => False
def opInF (x y : D) : W Bool := ⟨fun h Q _ => ∃ xs, Items h y xs ∧ flat x = true ∧ xs.all flat = true ∧ Q (inF x xs) h, fun g ⟨xs, a, b, c, k⟩ => ⟨xs, a, b, c, g _ _ k⟩⟩
def opNinF (x y : D) : W Bool := ⟨fun h Q _ => ∃ xs, Items h y xs ∧ flat x = true ∧ xs.all flat = true ∧ Q (!inF x xs) h, fun g ⟨xs, a, b, c, k⟩ => ⟨xs, a, b, c, g _ _ k⟩⟩
theorem flat_V {H : Hp} {x : V} {d : D} (r : Rep K H x d) (f : flat d = true) : flatV x = true := by cases r <;> first | rfl | exact f
theorem eqF_V {H : Hp} {x y : V} {d e : D} (r : Rep K H x d) (q : Rep K H y e) (f : flat d = true) (g : flat e = true) : eqV x y = eqF d e := by
  cases r <;> cases q <;> first | rfl | (simp [flat] at f) | (simp [flat] at g)
theorem inF_V {H : Hp} {x : V} {d : D} (r : Rep K H x d) (f : flat d = true) : ∀ {vs : List V} {ds : List D}, Reps K H vs ds → ds.all flat = true → vs.all flatV = true ∧ inV x vs = inF d ds
  | _, _, .nil, _ => ⟨rfl, rfl⟩
  | _, _, .cons a b, g => by
    rw [List.all_cons, Bool.and_eq_true] at g
    obtain ⟨h1, h2⟩ := inF_V r f b g.2
    refine ⟨by rw [List.all_cons, flat_V a g.1, h1]; rfl, ?_⟩
    unfold inV inF at h2 ⊢
    rw [List.any_cons, List.any_cons, h2, eqF_V a r g.1 f]
theorem items_P {H : Hp} {h : DH} {y : V} {e : D} {xs : List D} (hr : HRel K H h) (ry : Rep K H y e) (i : Items h e xs) : ∃ p vs, y = .ref p ∧ (SqL K.K H p vs ∨ SqP K.K H p vs xs) ∧ Reps K H vs xs := by
  cases ry with
  | tup s rr => have i' : xs = _ := i; subst i'; exact ⟨_, _, rfl, .inr s, rr⟩
  | cl s rr => have i' : xs = _ := i; subst i'; exact ⟨_, _, rfl, .inl s.list, rr⟩
  | cd s rr => exact (show False from i).elim
  | dk s q rr => exact (show False from i).elim
  | ty _ => exact (show False from i).elim
  | gl _ => exact (show False from i).elim
  | ref a =>
    obtain ⟨vs, hv, rr⟩ := hr a _ i
    exact ⟨a, vs, rfl, .inl (SqL.of hv), rr⟩
  | non => exact (show False from i).elim
  | bl _ => exact (show False from i).elim
  | int _ => exact (show False from i).elim
  | str _ => exact (show False from i).elim
theorem items_V {H : Hp} {h : DH} {y : V} {e : D} {xs : List D} (hr : HRel K H h) (ry : Rep K H y e) (i : Items h e xs) : ∃ p vs, y = .ref p ∧ (SqL K.K H p vs ∨ SqT K.K H p vs) ∧ Reps K H vs xs := by
  obtain ⟨p, vs, e, s, r⟩ := items_P hr ry i
  exact ⟨p, vs, e, s.imp id (·.1), r⟩
theorem s_inF : SimC K EK (rIn K.K false) opInF := fun H h x y d e Q hr rx ry ⟨xs, i, f, g, k⟩ => by
  obtain ⟨p, vs, rfl, s, rr⟩ := items_V hr ry i
  obtain ⟨h1, h2⟩ := inF_V rx f rr g
  exact ⟨p, vs, rfl, s, flat_V rx f, h1, by rw [if_neg Bool.false_ne_true, h2]; exact k H Ext.refl hr⟩
theorem s_ninF : SimC K EK (rIn K.K true) opNinF := fun H h x y d e Q hr rx ry ⟨xs, i, f, g, k⟩ => by
  obtain ⟨p, vs, rfl, s, rr⟩ := items_V hr ry i
  obtain ⟨h1, h2⟩ := inF_V rx f rr g
  exact ⟨p, vs, rfl, s, flat_V rx f, h1, by rw [if_pos rfl, h2]; exact k H Ext.refl hr⟩

def Tru (h : DH) (d : D) (k : Bool) : Prop := match d with
  | .non => k = false
  | .bl b => k = b
  | .int i => k = (i != 0)
  | .str y => y.length ≤ sizeLine ∧ k = ((y.length : Int) != 0)
  | .tup xs => k = !xs.isEmpty
  | .cl xs => k = !xs.isEmpty
  | .cd _ _ => False
  | .dk _ _ => False
  | .ty _ => False
  | .gl _ => False
  | .ref a => ∃ xs, h a = some (.lst xs) ∧ k = !xs.isEmpty
def opTru (d : D) : W Bool := W.read fun h k => Tru h d k
theorem reps_empty {H : Hp} {vs : List V} {ds : List D} (r : Reps K H vs ds) : vs.isEmpty = ds.isEmpty := by cases r <;> rfl
theorem s_tru : SimT K EK (fun x H Q => ∃ k, TruV K.K x H k ∧ Q k H) opTru := fun H h x d Q hr rx ⟨k, t, run⟩ => by
  refine ⟨k, ?_, run H Ext.refl hr⟩
  cases rx with
  | non => exact t
  | bl b => exact t
  | int i => exact t
  | str y => exact t
  | tup s rr => exact .inr (.inl ⟨_, s.1, by rw [reps_empty rr]; exact t⟩)
  | cl s rr => exact .inl ⟨_, s.list, by rw [reps_empty rr]; exact t⟩
  | cd s rr => exact t.elim
  | dk s q rr => exact t.elim
  | ty _ => exact t.elim
  | gl _ => exact t.elim
  | ref a =>
    obtain ⟨xs, e, t⟩ := t
    obtain ⟨vs, hv, rr⟩ := hr a _ e
    exact .inl ⟨_, SqL.of hv, by rw [reps_empty rr]; exact t⟩
def Ix (h : DH) (d e v : D) : Prop := match d, e with
  | .tup xs, .int i => atI xs i = some v
  | .cl xs, .int i => atI xs i = some v
  | .ref a, .int i => ∃ xs, h a = some (.lst xs) ∧ atI xs i = some v
  | .str s, .int i => s.length ≤ sizeLine ∧ ∃ c, atI s.cps.toList i = some c ∧ v = .str ⟨#[c]⟩
  | _, _ => False
def opIx (d e : D) : W D := W.read fun h v => Ix h d e v
theorem atI_reps {H : Hp} {vs : List V} {ds : List D} {i : Int} {d : D} (r : Reps K H vs ds) (e : atI ds i = some d) : ∃ v, atI vs i = some v ∧ Rep K H v d := by
  unfold atI at e ⊢
  rw [r.length]
  cases q : ixN ds.length i with
  | none => rw [q] at e; simp at e
  | some j =>
    rw [q] at e
    obtain ⟨v, h1, h2⟩ := r.get (i := j) (by simpa using e)
    exact ⟨v, by simpa using h1, h2⟩
theorem s_ix : Sim2 K EK (rIx K.K) opIx := fun H h x y d e Q hr rx ry ⟨v, t, run⟩ => by
  match d, e, rx, ry, t with
  | .tup xs, .int i, .tup s rr, ry, t =>
    rw [rep_int ry]
    obtain ⟨u, h1, h2⟩ := atI_reps rr t
    exact .inr (.inl ⟨_, _, i, u, rfl, rfl, s.1, h1, run u H Ext.refl hr h2⟩)
  | .cl xs, .int i, .cl s rr, ry, t =>
    rw [rep_int ry]
    obtain ⟨u, h1, h2⟩ := atI_reps rr t
    exact .inl ⟨_, _, i, u, rfl, rfl, s.list, h1, run u H Ext.refl hr h2⟩
  | .ref a, .int i, rx, ry, ⟨xs, ha, t⟩ =>
    rw [rep_ref rx, rep_int ry]
    obtain ⟨vs, hv, rr⟩ := hr a _ ha
    obtain ⟨u, h1, h2⟩ := atI_reps rr t
    exact .inl ⟨_, _, i, u, rfl, rfl, SqL.of hv, h1, run u H Ext.refl hr h2⟩
  | .str z, .int i, rx, ry, t =>
    obtain ⟨hz, c, tc, ev⟩ := (show z.length ≤ sizeLine ∧ ∃ c, atI z.cps.toList i = some c ∧ v = .str ⟨#[c]⟩ from t)
    rw [rep_str rx, rep_int ry]
    subst ev
    exact .inr (.inr ⟨z, i, c, rfl, rfl, hz, tc, run _ H Ext.refl hr (.str _)⟩)

structure DO (X : Cx) (EK : EKt) (r : Lo) (e : Option Expr) (m : W (Option Int)) : Prop where
  po : PO X e (fun σ H Q => ∃ h, LRel X.gx H r σ ∧ HRel X.gx H h ∧ m.run h (fun o h' => ∀ H', Ext X.gx H H' → HRel X.gx H' h' → Q o H') EK)
def opPart : D → W (Option Int)
  | .int i => W.pure (some i)
  | _ => W.fail
variable {r : Lo} {a lo hi : _root_.PySem.Expr} {el eh : Option Expr} {ma : W D} {ml mh : W (Option Int)} {pos p2 : Pos}
theorem do_none : DO X EK r none (W.pure none) := ⟨⟨fun p s σ H Q I ⟨h, l, hr, run⟩ => po_none.run p s σ H Q I (run H Ext.refl hr)⟩⟩
theorem do_some (ha : DE X EK r a ma) : DO X EK r (some a) (ma.bind opPart) := ⟨⟨fun p s σ H Q I ⟨h, l, hr, run⟩ => (po_some ha.pe).run p s σ H Q I ⟨h, l, hr, ma.mono (fun d h' q v H' e hr' rp => by
    match d, q with
    | .int i, q => exact ⟨i, rep_int rp, q H' e hr'⟩) run⟩⟩⟩
def cutD (xs : List D) (lo hi : Option Int) : List D := (xs.drop (HT.sIx xs.length 0 lo)).take (HT.sIx xs.length xs.length hi - HT.sIx xs.length 0 lo)
theorem cut_reps {H : Hp} {vs : List V} {ds : List D} (r : Reps K H vs ds) (lo hi : Option Int) : Reps K H (cutV vs lo hi) (cutD ds lo hi) := by
  unfold cutV cutD
  rw [r.length]
  exact (r.drop _).take _
def opSl (d : D) (lo hi : Option Int) : W D := ⟨fun h Q _ => ∃ xs, (match d with | .cl ys => xs = ys | .ref a => h a = some (.lst xs) | _ => False) ∧ ∀ p, h p = none → Q (.ref p) (h.upd p (.lst (cutD xs lo hi))), fun g ⟨xs, a, k⟩ => ⟨xs, a, fun p hp => g _ _ (k p hp)⟩⟩
def opRev (d : D) : W D := ⟨fun h Q _ => ∃ xs, LstI h d xs ∧ ∀ p, h p = none → Q (.ref p) (h.upd p (.lst xs.reverse)), fun g ⟨xs, b, k⟩ => ⟨xs, b, fun p hp => g _ _ (k p hp)⟩⟩
theorem de_rev {k : Nat} {p1 p2 p3 pos : Pos} (ha : DE X EK r a ma) : DE X EK r (.Subscript a (.Slice none none (some (.UnaryOp .USub (.Constant (.int 1) k p1) p2)) p3) pos) (ma.bind opRev) :=
  ⟨pe_weak (pe_revL ha.pe) fun σ H Q x => glue1 x fun d h' v H' e hr rp l ⟨xs, hb, run⟩ => by
    obtain ⟨b, vs, ev, sv, rr⟩ := hb.rep hr rp
    exact ⟨b, vs, ev, sv.list, fun p hp => run p (hr.none hp) _ _ (Ext.laid hp) (hr.laid hp ⟨_, upd_same, (rr.reverse).mono (Ext.laid hp)⟩) (.ref p)⟩⟩
end
end DL
namespace DL
open PySem L2
open PyProof.Rows (envOfC)

structure FnG (P : Program) (w : World) (K : PySem.W.Frag) (mg : Str → Option Value) (base : Heap) (CX : CXT)
    (k : Nat) (f : Addr) (fd : FuncData) (ps : List Str) (sp : Sp) : Prop where
  len : ∀ vs H Q E, sp vs H Q E → vs.length = ps.length
  run : ∀ (A : Around) (outer : List Env) (s : Shared) (H : Hp) (args : Args) (us : List Value) (vs : List V) (Q : VK) (E : XK), A.guards = some [] → Room k A →
    Env0 P w K mg base A outer s H → BindsTo s fd args (ps.zip us) → Vals vs us → sp vs H Q E →
      codeAny (model P w) A (.call (.ref f) args) (CR CX outer P w H s Q E) s

section
variable {P : Program} {w : World} {K : PySem.W.Frag} {mg : Str → Option Value} {base : Heap}
theorem fng_of {CX : CXT} {x qual : Str} {st : Stmt} {f : Addr} {fd : FuncData} {N ps : List Str} {k : Nat} {sp : Sp}
    (hF : ∃ (oc : Value) (od : Option Addr) (dV kV doc pm : Value) (an : Option Addr) (cdv ct : Value) (osl : Array (Option Value)),
      fd = PySem.W.fnOf x qual (defArgs st) (defBody st) (defScope st) dV kV doc pm an cdv ct ∧ K.lookup f = some ⟨oc, od, .func fd, osl⟩ ∧ PySem.W.codeIn K cdv qual = true)
    (S : FnScope N ps (defScope st)) (hlen : ∀ vs H Q E, sp vs H Q E → vs.length = ps.length)
    (hbody : ∀ (cdv : Value) (A : Around) (outer : List Env) (s : Shared) (H : Hp) (vs : List V) (Q : VK) (E : XK), A.guards = some [] → PySem.W.codeIn K cdv qual = true →
      Room k (A.deeper (envOfC qual (defScope st) s.heap.objs.size f cdv)) → sp vs H Q E →
      ∃ t, PSs (cxOf CX P w K mg base N qual (defScope st) f cdv A outer s H E) (defBody st) t ∧ t { nx := fun _ H' => Q .non H', rt := Q } (start N vs) H) :
    FnG P w K mg base CX (k + 1) f fd ps sp := by
  obtain ⟨oc, od, dV, kV, doc, pm, an, cdv, ct, osl, rfl, lk, hcd⟩ := hF
  refine ⟨hlen, fun A outer s H args us vs Q E hg hr e0 hb rv hs => ?_⟩
  have keep : ∀ b o, base.get? b = some o → s.heap.get? b = some o := fun b o e => (e0.bs b o e).1
  have inK : K.In s.heap := e0.mod.kin.keeps keep
  have names : ∀ y ∈ ps.zip us, (defScope st).names.lookup y.1 = some .local ∨
      ((defScope st).names.lookup y.1 = some .cell ∧ ((cellsFrom (s.heap.objs.size + 1) (defScope st).names []).lookup y.1).isSome = true) := by
    intro y hy
    rcases S.par y.1 (List.of_mem_zip (show (y.1, y.2) ∈ ps.zip us from hy)).1 with q | q
    · exact Or.inl q
    · exact Or.inr ⟨q, PySem.W.cellsFrom_some _ _ _ (Or.inl q)⟩
  refine codeAny_call_function hr.depth (inK _ _ lk) rfl S.co S.gen rfl
    (PySem.W.codeRec_of inK hcd) (hb _ _ _ _ (wpAny_newFunctionEnv_cells S.kind names fun env he s1 ic => ?_))
  subst he
  refine ⟨(e0.mod.nolimit.keeps keep).keeps ic.toInCall.keep, codeAny_func ?_⟩
  obtain ⟨t, ht, hq⟩ := hbody cdv A outer s H vs Q E hg hcd (hr.deeper _) hs
  refine wpAny_mono (ht.run [] s1 (start N vs) H _ (inv_start S hr.hd e0 (hlen _ _ _ _ hs) rv ic) hq) ?_ (fun _ _ z => z)
  intro fl s' hfl
  match fl, hfl with
  | .ret u, ⟨v, σ', H', J, r, q⟩ => exact ⟨v, H', J.os, J.bare, J.base, J.hok, r, q⟩
  | .next, ⟨σ', H', J, q⟩ => exact ⟨.non, H', J.os, J.bare, J.base, J.hok, rfl, q⟩
  | .brk, ⟨_, _, _, q⟩ => exact q.elim
  | .cont, ⟨_, _, _, q⟩ => exact q.elim
end

section
variable {X : Cx} {CX : CXT} {k : Nat} {g C : Addr} {fd : FuncData} {ps : List Str} {sp : Sp} {E : XK} {x m : Str} {p pos apos : Pos} {e o : Expr} {es : List Expr}
theorem run_g {pins : List (Addr × Obj)} {σ : L2.St} {H : Hp} {s : Shared} {Q : VK} {us ds : List Value} {vs dvs : List V} (F : FnG X.prog X.w X.K X.mg X.base CX k g fd ps sp) (hg : X.A.guards = some []) (hr : Room k X.A)
    (hb : Binds X.K fd ps ds) (hd : Vals dvs ds) (hx : Passes CX X E) (I : Inv X pins σ H s) (r : Vals vs us) (h : sp (vs ++ dvs) H Q E) :
    wpAny (model X.prog X.w) X.A (call (.ref g) us) (EP X pins σ Q) X.xe s := by
  have rr := r.append hd
  have hl : (us ++ ds).length = ps.length := by
    rw [← rr.length]
    exact F.len _ _ _ _ h
  refine wpAny_call (codeAny_mono (F.run X.A X.stack s H ⟨us, []⟩ (us ++ ds) (vs ++ dvs) Q E hg hr I.env0 (hb s us I.kIn hl) rr h) fun r s' hq => ?_)
  match r, hq with
  | .error e, hq => exact hx pins σ H s e s' I hq
  | .ok (.ret u), hq => exact I.after hq
theorem pe_callG {dvs : List V} {ds : List Value} {t : TA} (F : FnG X.prog X.w X.K X.mg X.base CX k g fd ps sp) (hgd : X.A.guards = some []) (hr : Room k X.A) (hg : Gl X x) (hm : X.mg x = some (.ref g))
    (hk : PySem.W.keepIn X.K (.ref g) = true) (hb : Binds X.K fd ps ds) (hd : Vals dvs ds) (hx : Passes CX X E) (ha : PA X (e :: es) t) (hdb : (x == ("__debug__" : Str)) = false := by decide +kernel)
    (he : starEach (e :: es) X.env = (false, eval e X.env) :: starEach es X.env := by rfl) (hpl : (backTo pos (starEach es X.env)).any (·.1) = false := by rfl) :
    PE X (.Call (.Name x p) (e :: es) [] pos) (tCall sp dvs E t) :=
  ⟨fun pins s σ H Q I h => wpAny_Call_Name_kw (ld_glob I hg hm
    (PySem.W.callWith_K (h₀ := X.base) I.ok.mod.kin hk (thn (ha.run pos pins s σ H _ I h) fun us s1 ⟨vs, H1, I1, r, q⟩ => ⟨I1.kIn, run_g F hgd hr hb hd hx I1 r q⟩) he hpl) hdb)⟩
end

section
variable {X : Cx} {r : Lo} {e : Expr} {es : List Expr} {ms : List (W D)} {pos p : Pos} {k : Nat} {g : Addr} {fd : FuncData} {ps : List Str} {x : Str} {f : List D → W D} {n : Nat}
theorem de_callG {n : Nat} (F : FnG X.prog X.w X.K X.mg X.base CX0 k g fd ps (spF X.gx n f)) (hgd : X.A.guards = some []) (hr : Room k X.A) (hg : Gl X x) (hm : X.mg x = some (.ref g)) (hk : PySem.W.keepIn X.K (.ref g) = true) (hb : Binds X.K fd ps []) (ha : DA X EK0 r (e :: es) ms)
    (hl : ms.length = n := by rfl)
    (hdb : (x == ("__debug__" : Str)) = false := by decide +kernel) (he : starEach (e :: es) X.env = (false, eval e X.env) :: starEach es X.env := by rfl) (hpl : (backTo pos (starEach es X.env)).any (·.1) = false := by rfl) :
    DE X EK0 r (.Call (.Name x p) (e :: es) [] pos) (eCall f ms) :=
  ⟨pe_weak (pe_callG F hgd hr hg hm hk hb .nil pass0 ha.pa hdb he hpl) fun σ H Q x => glueA x fun ds h' vs H' e hr rp l hd run => by
    show spF X.gx n f (vs ++ []) H' Q E0
    rw [List.append_nil]
    exact ⟨ds, h', hd.trans hl, rp, hr, run⟩⟩
def pick {α : Type} (gi : List Nat) (d : α) (xs : List α) : List α := gi.map fun i => xs.getD i d

theorem fng_code {P : Program} {w : World} {K : PySem.W.Frag} {mg : Str → Option Value} {base : Heap} {x qual : Str} {st : Stmt} {f : Addr} {fd : FuncData} {N ps : List Str} {k : Nat} {code : List D → W (Fl Unit Unit)} {Jn Jl : Unit → Lo}
    (F : Fun K x qual st f fd) (S : FnScope N ps (defScope st))
    (hbody : ∀ (cdv : Value) (A : Around) (outer : List Env) (s : Shared) (H : Hp) (E : XK) (ds : List D), A.guards = some [] → PySem.W.codeIn K cdv qual = true → Room k (A.deeper (envOfC qual (defScope st) s.heap.objs.size f cdv)) → ds.length = ps.length →
      DB (cxOf CX0 P w K mg base N qual (defScope st) f cdv A outer s H E).nox EK0 Jn Jl (ds.map some ++ List.replicate (N.length - ds.length) none) (defBody st) (code ds)) :
    FnG P w K mg base CX0 (k + 1) f fd ps (spF ⟨K, w, P, mg⟩ ps.length (fun ds => fn (code ds))) := by
  refine fng_of (st := st) (by obtain ⟨a, b, c, d, e, f, g, h, i, j⟩ := F.ex; exact ⟨a, b, _, c, d, e, f, g, h, i, j⟩) S ?_ ?_
  · rintro vs H Q E ⟨ds, h, hl, rp, _⟩
    rw [rp.length, hl]
  · rintro cdv A outer s H vs Q E hg hcd hr ⟨ds, h, hl, rp, hh, run⟩
    refine ⟨_, (hbody cdv A outer s H E ds hg hcd hr hl).ps.nox, h, ⟨?_, ?_⟩, hh, (code ds).mono ?_ run⟩
    · have e := rp.length
      simp only [L2.start, List.length_append, List.length_map, List.length_replicate, e]
    · intro i d hi
      have e := rp.length
      by_cases hlt : i < ds.length
      · rw [List.getElem?_append_left (by simpa using hlt), List.getElem?_map] at hi
        obtain ⟨d', h1, h2⟩ := Option.map_eq_some_iff.mp hi
        cases h2
        obtain ⟨v, hv, rv⟩ := rp.get h1
        refine ⟨v, ?_, rv⟩
        show (vs.map some ++ _)[i]? = _
        rw [List.getElem?_append_left (by rw [List.length_map, e]; exact hlt), List.getElem?_map, hv]
        rfl
      · rw [List.getElem?_append_right (by simpa using Nat.le_of_not_lt hlt)] at hi
        have := List.eq_of_mem_replicate (List.mem_of_getElem? hi)
        cases this
    · intro fl h' q σ' H' e hr'
      match fl, q with
      | .nx c, q => intro _; exact q .non H' e hr' .non
      | .rt d, q => intro v rv; exact q v H' e hr' rv
      | .bk _, q => exact q.elim
      | .ct _, q => exact q.elim
end
end DL
namespace DL
open PySem L2

structure DK (X : Cx) (EK : EKt) (r : Lo) (kws : List Keyword) (ms : List (W D)) : Prop where
  pk : PK X kws (tA X.gx EK r (eArgs ms))
section
variable {X : Cx} {EK : EKt} {r : Lo} {e : Expr} {es : List Expr} {kws : List Keyword} {m : W D} {ms ks : List (W D)} {pos p kpos : Pos} {nm : Option Str}
theorem dk_nil : DK X EK r [] [] := ⟨⟨fun pos pins s σ H Q I ⟨h, l, hr, run⟩ => pk_nil.run pos pins s σ H Q I (run [] H Ext.refl hr .nil)⟩⟩
theorem dk_cons (ha : DE X EK r e m) (hb : DK X EK r kws ms) : DK X EK r (⟨nm, e, kpos⟩ :: kws) (m :: ms) := by
  refine ⟨⟨fun pos pins s σ H Q I x => (pk_cons ha.pe hb.pk).run pos pins s σ H Q I ?_⟩⟩
  obtain ⟨h, l, hr, run⟩ := x
  refine ⟨h, l, hr, m.mono (fun d h1 q v H1 e1 hr1 rp1 => ?_) run⟩
  exact ⟨h1, l.mono e1, hr1, (eArgs ms).mono (fun ds h2 q2 vs H2 e2 hr2 rp2 => q2 (v :: vs) H2 (e1.trans e2) hr2 (.cons (rp1.mono e2) rp2)) q⟩
theorem pick_vals {vs : List V} {us : List Value} (r : Vals vs us) : ∀ gi : List Nat, Vals (pick gi .non vs) (pick gi .none us)
  | [] => .nil
  | i :: gi => by
    refine .cons ?_ (pick_vals r gi)
    by_cases hi : i < vs.length
    · obtain ⟨u, h1, h2⟩ := r.get (List.getElem?_eq_getElem hi)
      simp only [List.getD, h1, List.getElem?_eq_getElem hi, Option.getD_some]
      exact h2
    · have h1 : vs[i]? = none := List.getElem?_eq_none (Nat.le_of_not_lt hi)
      have h2 : us[i]? = none := List.getElem?_eq_none (by rw [← r.length]; exact Nat.le_of_not_lt hi)
      simp only [List.getD, h1, h2, Option.getD_none]
      rfl
structure KwB (K : PySem.W.Frag) (fd : FuncData) (ps ks : List Str) (np : Nat) (gi : List Nat) : Prop where
  to : ∀ (s : Shared) (us ws : List Value), K.In s.heap → us.length = np → ws.length = ks.length → BindsTo s fd ⟨us, ks.zip ws⟩ (ps.zip (pick gi .none (us ++ ws)))
  num : gi.length = ps.length
variable {k : Nat} {g : Addr} {fd : FuncData} {ps kn : List Str} {x : Str} {f o : List D → W D} {n np : Nat} {gi : List Nat}
theorem run_gk {pins : List (Addr × Obj)} {σ : L2.St} {H : Hp} {s : Shared} {Q : VK} {us ws : List Value} {vs zs : List V} {sp : Sp} (F : FnG X.prog X.w X.K X.mg X.base CX0 k g fd ps sp) (hg : X.A.guards = some []) (hr : Room k X.A)
    (hb : KwB X.K fd ps kn np gi) (I : Inv X pins σ H s) (r : Vals vs us) (rz : Vals zs ws) (h1 : us.length = np) (h2 : ws.length = kn.length) (h : sp (pick gi .non (vs ++ zs)) H Q E0) :
    wpAny (model X.prog X.w) X.A (call (.ref g) us (kn.zip ws)) (EP X pins σ Q) X.xe s := by
  refine wpAny_call (codeAny_mono (F.run X.A X.stack s H ⟨us, kn.zip ws⟩ _ _ Q E0 hg hr I.env0 (hb.to s us ws I.kIn h1 h2) (pick_vals (r.append rz) gi) h) fun r s' hq => ?_)
  match r, hq with
  | .ok (.ret u), hq => exact I.after hq
end

section
variable {X : Cx} {EK : EKt} {K : Gx}
def bLen : List D → W D
  | [.str y] => W.need (y.length ≤ sizeLine) (W.pure (.int y.length))
  | [d] => ⟨fun h Q _ => ∃ xs, Items h d xs ∧ Q (.int xs.length) h, fun g ⟨xs, a, b⟩ => ⟨xs, a, g _ _ b⟩⟩
  | _ => W.fail
def rLenA (K : PySem.W.Frag) : List V → Hp → VK → Prop := fun xs H Q => (∃ p ys, xs = [.ref p] ∧ (SqL K H p ys ∨ SqT K H p ys) ∧ Q (.int ys.length) H) ∨ (∃ z, xs = [.str z] ∧ z.length ≤ sizeLine ∧ Q (.int z.length) H)
theorem c_len : CallR X (.builtin "len") (rLenA X.K) := call_len_seq.or call_len_str
theorem s_len : SimL K EK (rLenA K.K) bLen := fun H h xs ds Q hr rp run => by
  match ds, rp, run with
  | [.str y], rp, run =>
    obtain ⟨v, rfl, r1⟩ := reps1 rp
    rw [rep_str r1]
    exact .inr ⟨y, rfl, run.1, run.2 _ H Ext.refl hr (.int _)⟩
  | [.tup ys], rp, run =>
    obtain ⟨v, rfl, r1⟩ := reps1 rp
    obtain ⟨xs, i, k⟩ := run
    obtain ⟨p, vs, rfl, s, rr⟩ := items_V hr r1 i
    exact .inl ⟨p, vs, rfl, s, by rw [rr.length]; exact k _ H Ext.refl hr (.int _)⟩
  | [.cl ys], rp, run =>
    obtain ⟨v, rfl, r1⟩ := reps1 rp
    obtain ⟨xs, i, k⟩ := run
    obtain ⟨p, vs, rfl, s, rr⟩ := items_V hr r1 i
    exact .inl ⟨p, vs, rfl, s, by rw [rr.length]; exact k _ H Ext.refl hr (.int _)⟩
  | [.non], _, ⟨_, i, _⟩ => exact (show False from i).elim
  | [.bl _], _, ⟨_, i, _⟩ => exact (show False from i).elim
  | [.int _], _, ⟨_, i, _⟩ => exact (show False from i).elim
  | [.cd _ _], _, ⟨_, i, _⟩ => exact (show False from i).elim
  | [.dk _ _], _, ⟨_, i, _⟩ => exact (show False from i).elim
  | [.ty _], _, ⟨_, i, _⟩ => exact (show False from i).elim
  | [.gl _], _, ⟨_, i, _⟩ => exact (show False from i).elim
  | [.ref a], rp, run =>
    obtain ⟨v, rfl, r1⟩ := reps1 rp
    obtain ⟨xs, i, k⟩ := run
    obtain ⟨p, vs, rfl, s, rr⟩ := items_V hr r1 i
    exact .inl ⟨p, vs, rfl, s, by rw [rr.length]; exact k _ H Ext.refl hr (.int _)⟩
def bList : List D → W D
  | [d] => ⟨fun h Q _ => ∃ xs, Items h d xs ∧ ∀ p, h p = none → Q (.ref p) (h.upd p (.lst xs)), fun g ⟨xs, a, b⟩ => ⟨xs, a, fun p hp => g _ _ (b p hp)⟩⟩
  | _ => W.fail
def bTuple : List D → W D
  | [d] => ⟨fun h Q _ => ∃ xs, Items h d xs ∧ Q (.tup xs) h, fun g ⟨xs, a, b⟩ => ⟨xs, a, g _ _ b⟩⟩
  | _ => W.fail
theorem s_list : SimL K EK (fun xs H Q => ∃ p ys, xs = [.ref p] ∧ (SqL K.K H p ys ∨ SqT K.K H p ys) ∧ ∀ l, H l = none → Q (.ref l) (upd H l (.lst ys))) bList := fun H h xs ds Q hr rp run => by
  match ds, rp, run with
  | [d], rp, run =>
    obtain ⟨v, rfl, r1⟩ := reps1 rp
    obtain ⟨xs, i, k⟩ := run
    obtain ⟨p, vs, rfl, s, rr⟩ := items_V hr r1 i
    exact ⟨p, vs, rfl, s, fun l hl => k l (hr.none hl) _ _ (Ext.laid hl) (hr.laid hl ⟨vs, upd_same, rr.mono (Ext.laid hl)⟩) (.ref l)⟩
theorem s_tuple : SimL K EK (fun xs H Q => ∃ p ys, xs = [.ref p] ∧ ((SqL K.K H p ys ∧ NewT H ys Q) ∨ (SqT K.K H p ys ∧ Q (.ref p) H))) bTuple := fun H h xs ds Q hr rp run => by
  match ds, rp, run with
  | [d], rp, run =>
    obtain ⟨v, rfl, r1⟩ := reps1 rp
    obtain ⟨xs, i, k⟩ := run
    obtain ⟨p, vs, rfl, s, rr⟩ := items_P hr r1 i
    refine ⟨p, vs, rfl, ?_⟩
    rcases s with s | s
    · exact .inl ⟨s, fun l o hl ho => k _ _ (Ext.laid hl) (hr.under hl) (.tup (SqP.of ho) (rr.mono (Ext.laid hl)))⟩
    · exact .inr ⟨s.1, k _ H Ext.refl hr (.tup s rr)⟩
def bAll : List D → W D
  | [d] => ⟨fun h Q _ => ∃ bs : List Bool, LstI h d (bs.map D.bl) ∧ Q (.bl (bs.all id)) h, fun g ⟨xs, a, b⟩ => ⟨xs, a, g _ _ b⟩⟩
  | _ => W.fail
theorem ints_reps {H : Hp} : ∀ (bs : List Int), Reps K H (bs.map V.int) (bs.map D.int)
  | [] => .nil
  | b :: bs => .cons (.int b) (ints_reps bs)
def bMin2 : List D → W D
  | [.int i, .int j] => W.pure (.int (if j < i then j else i))
  | _ => W.fail
theorem s_min2 : SimL K EK (fun xs H Q => ∃ i j, xs = [.int i, .int j] ∧ Q (.int (if j < i then j else i)) H) bMin2 := fun H h xs ds Q hr rp run => by
  match ds, rp, run with
  | [.int i, .int j], rp, run =>
    obtain ⟨v, w, rfl, r1, r2⟩ := reps2 rp
    rw [rep_int r1, rep_int r2]
    exact ⟨i, j, rfl, run _ H Ext.refl hr (.int _)⟩
def bInt : List D → W D
  | [.int i] => W.pure (.int i)
  | [.bl k] => W.pure (.int (if k then 1 else 0))
  | _ => W.fail
theorem s_int : SimL K EK (fun xs H Q => (∃ i, xs = [.int i] ∧ Q (.int i) H) ∨ ∃ k, xs = [.bl k] ∧ Q (.int (if k then 1 else 0)) H) bInt := fun H h xs ds Q hr rp run => by
  match ds, rp, run with
  | [.int i], rp, run =>
    obtain ⟨v, rfl, r1⟩ := reps1 rp
    rw [rep_int r1]
    exact .inl ⟨i, rfl, run _ H Ext.refl hr (.int _)⟩
  | [.bl i], rp, run =>
    obtain ⟨v, rfl, r1⟩ := reps1 rp
    rw [rep_bl r1]
    exact .inr ⟨i, rfl, run _ H Ext.refl hr (.int _)⟩
end
end DL
namespace DL
open PySem L2

section
variable {X : Cx} {EK : EKt} {K : Gx}
end

def TyP (X : Cx) (T : String) (P : V → Hp → Prop) : Prop :=
  ∀ (pins : List (Addr × Obj)) (s : Shared) (σ : L2.St) (H : Hp) (x : V) (v : Value), Inv X pins σ H s → RelV x v → P x H → s.TypeIs v T ∧ ∀ a, v = .ref a → ∃ ob, s.heap.get? a = some ob ∧ ob.dict = none
section
variable {X : Cx} {EK : EKt} {K : Gx} {r : Lo} {o e : Expr} {es : List Expr} {mo : W D} {ms : List (W D)} {name : Str} {apos cpos : Pos} {T id : String} {rr : V → List V → Hp → VK → Prop} {P : V → Hp → Prop}
theorem ty_list : TyP X "list" (fun x H => ∃ p xs, x = .ref p ∧ SqL X.K H p xs) := fun pins s σ H x v I r h => by
  obtain ⟨p, xs, rfl, q⟩ := h
  exact tyV_is I r (.inl ⟨rfl, xs, q⟩)
@[reducible] def isL (d : D) (h : DH) : Prop := match d with | .cl _ => True | .ref a => ∃ xs, h a = some (.lst xs) | _ => False
@[reducible] def eMeth (ty : D → DH → Prop) (g : D → List D → W D) (mo : W D) (ms : List (W D)) : W D := mo.bind fun d => chkW (ty d) ((eArgs ms).bind fun ds => g d ds)
def SimTy (K : Gx) (ty : D → DH → Prop) (P : V → Hp → Prop) : Prop := ∀ (H : Hp) (h : DH) (x : V) (d : D), HRel K H h → Rep K H x d → ty d h → P x H
theorem st_list : SimTy K isL (fun x H => ∃ p xs, x = .ref p ∧ SqL K.K H p xs) := fun H h x d hr rp t => by
  match d, rp, t with
  | .cl _, .cl s rr, t => exact ⟨_, _, rfl, s.list⟩
  | .ref a, rp, ⟨xs, ha⟩ =>
    obtain ⟨vs, hv, _⟩ := hr a _ ha
    exact ⟨a, vs, rep_ref rp, SqL.of hv⟩
theorem de_meth (pa : PlainAttrs T) (slot : Slot T name id) (hty : typeOf (.builtin id) = pure (.type "method_descriptor")) (hT : TyP X T P) {ty : D → DH → Prop} (sT : SimTy X.gx ty P) (hm : MtR X id rr) {g : D → List D → W D} (sm : SimM X.gx EK rr g)
    (ho : DE X EK r o mo) (ha : DA X EK r (e :: es) ms)
    (hbase : attributeBase o name X.env (eval o X.env) = eval o X.env := by rfl)
    (hfew : ((backTo cpos (starEach (e :: es) X.env)).all (fun x => !x.1) && (backToKw cpos (keywordEach [] X.env)).all (fun x => x.1.isSome)
      && decide ((e :: es).length + ([] : List Keyword).length + (if ([] : List Keyword).isEmpty then 0 else 1) < 30)) = true := by rfl)
    (hline : (apos.endLine == cpos.line) = true := by rfl) (hs : starEach (e :: es) X.env = (false, eval e X.env) :: starEach es X.env := by rfl) (hplain : (backTo cpos (starEach es X.env)).any (·.1) = false := by rfl) :
    DE X EK r (.Call (.Attribute o name apos) (e :: es) [] cpos) (eMeth ty g mo ms) := by
  refine ⟨⟨fun pins s σ H Q I x => ?_⟩⟩
  have x' := glue1 (R := fun x H1 => P x H1 ∧ tA X.gx EK r (eArgs ms) σ H1 fun vs H2 => rr x vs H2 Q) x fun d h' v H' e hr rp l run => ⟨sT H' h' v d hr rp run.1, ?_⟩
  · refine wpAny_Call_method_late hbase hfew hline rfl (thn (ho.pe.run pins s σ H _ I x') fun v s1 ⟨x, H1, I1, r1, ty, q1⟩ => ?_)
    obtain ⟨h1, h2⟩ := hT pins s1 σ H1 x v I1 r1 ty
    refine ⟨T, id, pa, slot, hty, h1, h2, ?_⟩
    have hA := ha.pa.run cpos pins s1 σ H1 _ I1 q1
    rw [hs] at hA ⊢
    refine Calls.callWith_builtin (by show (false || (backTo cpos (starEach es X.env)).any (·.1)) = false; rw [hplain]; rfl) (Calls.evalArgs_plain ?_)
    exact thn hA fun us s2 ⟨vs, H2, I2, r2, q2⟩ => hm pins s2 σ H2 x vs v us Q I2 r1 r2 q2
  · refine glueA ⟨h', l, hr, run.2⟩ fun ds h2 vs H2 e2 hr2 rp2 l2 hd run2 => ?_
    exact sm H2 h2 v d vs ds Q hr2 (rp.mono e2) rp2 run2
theorem de_meth0 (pa : PlainAttrs T) (slot : Slot T name id) (hty : typeOf (.builtin id) = pure (.type "method_descriptor")) (hT : TyP X T P) {ty : D → DH → Prop} (sT : SimTy X.gx ty P) (hm : MtR X id rr) {g : D → List D → W D} (sm : SimM X.gx EK rr g)
    (ho : DE X EK r o mo) (hbase : attributeBase o name X.env (eval o X.env) = eval o X.env := by rfl) (hline : (apos.endLine == cpos.line) = true := by rfl) :
    DE X EK r (.Call (.Attribute o name apos) [] [] cpos) (eMeth ty g mo []) := by
  refine ⟨⟨fun pins s σ H Q I x => ?_⟩⟩
  have x' := glue1 (R := fun x H1 => P x H1 ∧ rr x [] H1 Q) x fun d h' v H' e hr rp l run => ⟨sT H' h' v d hr rp run.1, sm H' h' v d [] [] Q hr rp .nil run.2⟩
  refine wpAny_Call_method0_late hbase hline (thn (ho.pe.run pins s σ H _ I x') fun v s1 ⟨x, H1, I1, r1, ty, q1⟩ => ?_)
  obtain ⟨h1, h2⟩ := hT pins s1 σ H1 x v I1 r1 ty
  exact ⟨T, id, pa, slot, hty, h1, h2, Calls.callWith_builtin rfl (PySem.evalArgs_none (hm pins s1 σ H1 x [] v [] Q I1 r1 .nil q1))⟩

def mAppend : D → List D → W D
  | .ref a, [y] => ⟨fun h Q _ => ∃ xs, h a = some (.lst xs) ∧ xs.length < sizeLine ∧ Q .non (h.upd a (.lst (xs ++ [y]))), fun g ⟨xs, p, q, k⟩ => ⟨xs, p, q, g _ _ k⟩⟩
  | _, _ => W.fail
def mPop : D → List D → W D
  | .ref a, [] => ⟨fun h Q _ => ∃ xs y, h a = some (.lst xs) ∧ xs[xs.length - 1]? = some y ∧ Q y (h.upd a (.lst xs.dropLast)), fun g ⟨xs, y, p, q, k⟩ => ⟨xs, y, p, q, g _ _ k⟩⟩
  | _, _ => W.fail
theorem wrote_lst {H : Hp} {h : DH} {a : Addr} {vs ws : List V} {xs : List D} (hr : HRel K H h) (hv : H a = some (.lst vs)) (rr : Reps K H ws xs) : Ext K H (L2.upd H a (.lst ws)) ∧ HRel K (L2.upd H a (.lst ws)) (h.upd a (.lst xs)) := by
  have e : Ext K H (L2.upd H a (.lst ws)) := Ext.wrote hv (fun _ z => by cases z) (fun _ _ z => by cases z)
  exact ⟨e, hr.wrote hv (fun _ z => by cases z) (fun _ _ z => by cases z) ⟨ws, upd_same, rr.mono e⟩⟩
theorem s_append : SimM K EK rAppend mAppend := fun H h x d xs ds Q hr rx rp run => by
  match d, ds, rx, rp, run with
  | .ref a, [y], rx, rp, ⟨xs, ha, hl, k⟩ =>
    obtain ⟨v, rfl, r1⟩ := reps1 rp
    obtain ⟨vs, hv, rr⟩ := hr a _ ha
    obtain ⟨e, hr'⟩ := wrote_lst hr hv (rr.append (.cons r1 .nil))
    exact ⟨a, vs, v, rep_ref rx, rfl, hv, by rw [rr.length]; exact hl, k _ _ e hr' .non⟩
theorem s_pop : SimM K EK rPop mPop := fun H h x d xs ds Q hr rx rp run => by
  match d, ds, rx, rp, run with
  | .ref a, [], rx, rp, ⟨xs, y, ha, hl, k⟩ =>
    cases rp
    obtain ⟨vs, hv, rr⟩ := hr a _ ha
    obtain ⟨v, h1, h2⟩ := rr.get hl
    obtain ⟨e, hr'⟩ := wrote_lst hr hv rr.dropLast
    exact ⟨a, vs, v, rep_ref rx, rfl, hv, by rw [rr.length]; exact h1, k _ _ e hr' (h2.mono e)⟩
end

def SimS (K : Gx) (EK : EKt) (r : V → V → V → Hp → (Hp → Prop) → Prop) (o : D → D → D → W Unit) : Prop :=
  ∀ (H : Hp) (h : DH) (x y z : V) (d e f : D) (Q : Hp → Prop), HRel K H h → Rep K H x d → Rep K H y e → Rep K H z f →
    (o d e f).run h (fun _ h' => ∀ H', Ext K H H' → HRel K H' h' → Q H') EK → r x y z H Q
section
variable {X : Cx} {EK : EKt} {K : Gx} {L C : Type} {Jn : C → Lo} {Jl : L → Lo} {r : Lo} {rest : List Stmt} {e o i : Expr} {m mo mi : W D} {pos tpos : Pos}
theorem db_sub {ts : TSet} {op : D → D → D → W Unit} {k : W (Fl L C)} (hs : PSet X ts) (sm : SimS X.gx EK ts op) (he : DE X EK r e m) (ho : DE X EK r o mo) (hi : DE X EK r i mi) (h2 : DB X EK Jn Jl r rest k)
    (ha : ∀ v, assign (.Subscript o i tpos) X.env v = (do
      let ov ← holding [v] (eval o X.env)
      let iv ← holding [v, ov] (eval i X.env)
      standAt tpos
      holding [v, ov, iv] (setItem ov iv v)
      release [v, ov, iv] []) := by intro _; rfl)
    (hs1 : swapsWithSole [.Subscript o i tpos] e pos.line X.env = pure false := by rfl) (hw : swappedStores [.Subscript o i tpos] e X.env = pure none := by rfl)
    (h1 : (assignEach [.Subscript o i tpos] X.env).map (·.2) = [assign (.Subscript o i tpos) X.env] := by rfl) :
    DB X EK Jn Jl r (.Assign [.Subscript o i tpos] e pos :: rest) (m.bind fun v => mo.bind fun x => mi.bind fun y => (op x y v).bind fun _ => k) := by
  refine ⟨pss_weak (pss_cons (ps_asg he.pe (pg_sub ho.pe hi.pe hs ha) hs1 hw h1) h2.ps) ?_⟩
  rintro D σ H ⟨h, l, hr, run⟩
  refine ⟨h, l, hr, m.mono (fun d h' q v H1 e1 hr1 rp1 => ?_) run⟩
  refine ⟨h', l.mono e1, hr1, mo.mono (fun x h2 q2 v2 H2 e2 hr2 rp2 => ?_) q⟩
  refine ⟨h2, (l.mono e1).mono e2, hr2, mi.mono (fun y h3 q3 v3 H3 e3 hr3 rp3 => ?_) q2⟩
  refine sm H3 h3 v2 v3 v x y d _ hr3 (rp2.mono e3) rp3 ((rp1.mono e2).mono e3) ((op x y d).mono (fun _ h4 q4 H4 e4 hr4 => ?_) q3)
  exact ⟨h4, (((l.mono e1).mono e2).mono e3).mono e4, hr4, k.mono (fun fl h5 q5 σ5 H5 e5 hr5 => q5 σ5 H5 (e1.trans (e2.trans (e3.trans (e4.trans e5)))) hr5) q4⟩
def stL : D → D → D → W Unit
  | .ref a, .int k, v => ⟨fun h Q _ => ∃ xs j, h a = some (.lst xs) ∧ ixN xs.length k = some j ∧ Q () (h.upd a (.lst (xs.set j v))), fun g ⟨xs, j, p, q, k⟩ => ⟨xs, j, p, q, g _ _ k⟩⟩
  | _, _, _ => W.fail
theorem s_setL : SimS K EK rSetL stL := fun H h x y z d e f Q hr rx ry rz run => by
  match d, e, run with
  | .ref a, .int k, ⟨xs, j, ha, hj, run⟩ =>
    obtain ⟨vs, hv, rr⟩ := hr a _ ha
    obtain ⟨e, hr'⟩ := wrote_lst hr hv (rr.set rz j)
    exact ⟨a, vs, k, j, rep_ref rx, rep_int ry, hv, by rw [rr.length]; exact hj, run _ e hr'⟩
end

section
variable {X : Cx} {EK : EKt} {K : Gx} {pins : List (Addr × Obj)} {σ : L2.St} {H : Hp} {s : Shared}
mutual
theorem nk_is (I : Inv X pins σ H s) : ∀ {v : V} {d : D} {u : Value}, Rep X.gx H v d → RelV v u → keyOk d = true → NestedIs s.heap (nk d) u
  | _, _, u, .non, r, _ => by cases r; exact .none
  | _, _, u, .bl b, r, _ => by cases r; exact .bool rfl
  | _, _, u, .int i, r, _ => by obtain ⟨t, rfl⟩ := r; exact .int i t
  | _, _, u, .str x, r, _ => by obtain ⟨t, rfl⟩ := r; exact .text x t
  | _, _, u, .tup sq rr, r, k => by
    cases r
    obtain ⟨its, rv, ⟨o, e, c, n, d⟩, _⟩ := I.tuple sq.1
    exact .tup e c d (by simpa using nks_is I rr rv k)
  | _, _, u, .cl _ _, r, k => by simp [keyOk] at k
  | _, _, u, .cd _ _, r, k => by simp [keyOk] at k
  | _, _, u, .dk _ _ _, r, k => by simp [keyOk] at k
  | _, _, u, .ty _, r, k => by simp [keyOk] at k
  | _, _, u, .gl _, r, k => by simp [keyOk] at k
  | _, _, u, .ref _, r, k => by simp [keyOk] at k
theorem nks_is (I : Inv X pins σ H s) : ∀ {vs : List V} {ds : List D} {us : List Value}, Reps X.gx H vs ds → Vals vs us → keysOk ds = true → NestedAll s.heap (nks ds) us
  | _, _, us, .nil, r, _ => by cases r; exact .nil
  | _, _, us, .cons a b, r, k => by
    cases r with
    | cons r1 r2 =>
      have k' := Bool.and_eq_true_iff.mp (show (keyOk _ && keysOk _) = true from k)
      exact .cons (nk_is I a r1 k'.1) (nks_is I b r2 k'.2)
end
def findT (kvs : List (D × D)) (k : D) : Option D := (kvs.find? fun p => decide (nk p.1 = nk k)).map (·.2)
def putT (kvs : List (D × D)) (k v : D) : List (D × D) := if (findT kvs k).isSome then kvs.map (fun p => if nk p.1 = nk k then (p.1, v) else p) else kvs ++ [(k, v)]
def isTup : D → Bool
  | .tup _ => true
  | _ => false
abbrev EntR (K : Gx) (H : Hp) (p : NestedKey × Addr × V) (q : D × D) : Prop := p.1 = nk q.1 ∧ p.1.depth ≤ 8 ∧ keyOk q.1 = true ∧ Rep K H (.ref p.2.1) q.1 ∧ Rep K H p.2.2 q.2
abbrev EntV (p : NestedKey × Addr × V) (q : NestedKey × Addr × Value) : Prop := p.1 = q.1 ∧ p.2.1 = q.2.1 ∧ RelV p.2.2 q.2.2
theorem ent_keys : ∀ {l : List (NestedKey × Addr × V)} {xs : List (NestedKey × Addr × Value)}, Paired EntV l xs → l.map (·.1) = xs.map (·.1)
  | _, _, .nil => rfl
  | _, _, .cons r px => by rw [List.map_cons, List.map_cons, ent_keys px, r.1]
theorem ent_is (I : Inv X pins σ H s) : ∀ {l : List (NestedKey × Addr × V)} {kvs : List (D × D)} {xs : List (NestedKey × Addr × Value)}, Paired (EntR X.gx H) l kvs → Paired EntV l xs →
    ∀ x ∈ xs, NestedIs s.heap x.1 (.ref x.2.1) ∧ x.1.depth ≤ 8
  | _, _, _, _, .nil, x, hx => by cases hx
  | _, _, _, .cons c pr, .cons r px, x, hx => by
    rcases List.mem_cons.mp hx with z | hx
    · subst z
      obtain ⟨c1, c2, c3, c4, _⟩ := c
      refine ⟨?_, by rw [← r.1]; exact c2⟩
      rw [← r.1, ← r.2.1, c1]
      exact nk_is I c4 rfl c3
    · exact ent_is I pr px x hx
theorem dictR_of {l : List (NestedKey × Addr × V)} {kvs : List (D × D)} {a : Addr} (I : Inv X pins σ H s) (e : H a = some (DictO X.prog X.w a l)) (pr : Paired (EntR X.gx H) l kvs) :
    (a == sysModules) = false ∧ ∃ xs : List (NestedKey × Addr × Value), Paired EntV l xs ∧ s.heap.DictOfH (nestedKind X.prog X.w) a xs ∧ xs.length ≤ sizeLine := by
  obtain ⟨⟨n1, n2, nd, xs, px, o, es, h1, h2, h3, h4⟩, _⟩ := I.hok a _ e
  exact ⟨n1, xs, px, ⟨o, es, _, h1, h2, h3, h4, ent_is I pr px, by rw [← ent_keys px]; exact nd⟩, by rw [← Paired.length px]; exact n2⟩
theorem dictO_ok {P : Program} {w : World} {H : Hp} {h : Heap} {a : Addr} {l : List (NestedKey × Addr × V)} (R : DictR P w a l h) : ObjOk P w H h a (DictO P w a l) := by
  refine ⟨R, ?_, fun h1 h2 R1 k => ?_⟩
  · obtain ⟨_, _, _, _, _, o, _, e, _⟩ := R
    exact ⟨o, e⟩
  · obtain ⟨a1, a2, a3, xs, px, o, es, e, z⟩ := R1
    exact ⟨a1, a2, a3, xs, px, o, es, k o e, z⟩
theorem at_find {l : List (NestedKey × Addr × V)} {kvs : List (D × D)} {xs : List (NestedKey × Addr × Value)} {k : D}
    (pr : Paired (EntR K H) l kvs)
    (px : Paired EntV l xs) :
    match findT kvs k with
    | none => atKey xs (nk k) = none
    | some d => ∃ a v u, atKey xs (nk k) = some (a, u) ∧ RelV v u ∧ Rep K H v d := by
  induction px generalizing kvs with
  | nil => cases pr; rfl
  | @cons p q l xs r px ih =>
    cases pr with
    | @cons _ kv _ kvs' c pr =>
      have ih := ih pr
      unfold findT at ih ⊢
      unfold atKey at ih ⊢
      rw [List.find?_cons, List.find?_cons]
      by_cases hk : nk kv.1 = nk k
      · have hq : q.1 = nk k := by rw [← r.1, c.1, hk]
        rw [decide_eq_true hk, decide_eq_true hq]
        exact ⟨q.2.1, p.2.2, q.2.2, rfl, r.2.2, c.2.2.2.2⟩
      · have hq : ¬ q.1 = nk k := by rw [← r.1, c.1]; exact hk
        rw [decide_eq_false hk, decide_eq_false hq]
        exact ih
def opInT (x y : D) : W Bool := ⟨fun h Q _ => ∃ a kvs, y = .ref a ∧ h a = some (.dT kvs) ∧ isTup x = true ∧ keyOk x = true ∧ (nk x).depth ≤ 8 ∧ Q (findT kvs x).isSome h, fun g ⟨a, b, c, d, e, f, i, k⟩ => ⟨a, b, c, d, e, f, i, g _ _ k⟩⟩
@[reducible] def opNinT (x y : D) : W Bool := (opInT x y).bind fun b => W.pure (!b)
def rInT (K : Gx) (neg : Bool) : R2 := fun x y H Q => ∃ a k l kvs d, x = .ref k ∧ y = .ref a ∧ H a = some (DictO K.P K.w a l) ∧
  Paired (EntR K H) l kvs ∧ Rep K H (.ref k) d ∧ keyOk d = true ∧ (nk d).depth ≤ 8 ∧ Q (.bl (if neg then !(findT kvs d).isSome else (findT kvs d).isSome)) H
theorem in_some {kvs : List (D × D)} {k : D} {xs : List (NestedKey × Addr × Value)} (h : match findT kvs k with
    | none => atKey xs (nk k) = none
    | some d => ∃ a v u, atKey xs (nk k) = some (a, u) ∧ RelV v u ∧ Rep K H v d) : (atKey xs (nk k)).isSome = (findT kvs k).isSome := by
  cases q : findT kvs k with
  | none => rw [q] at h; rw [h]; rfl
  | some d => rw [q] at h; obtain ⟨a, v, u, e, _⟩ := h; rw [e]; rfl
theorem o_inT (hu : X.A.units + 64 < cLine) : OpR X (compareOp .In) (rInT X.gx false) := by
  intro pins s σ H x y v u Q I rx ry h
  obtain ⟨a, k, l, kvs, d, rfl, rfl, e, pr, rp, ko, kd, q⟩ := h
  cases rx; cases ry
  obtain ⟨n1, xs, px, hd, hz⟩ := dictR_of I e pr
  refine wpAny_in_heap (knd := nestedKind X.prog X.w) (show X.A.units + 1 + 8 < cLine by omega) (⟨nk_is I rp rfl ko, kd⟩ : NestedIs s.heap (nk d) (.ref k) ∧ _) n1 hd ?_
  rw [in_some (at_find pr px)]
  exact ⟨.bl _, H, I.tok _, rfl, by simpa using q⟩
theorem s_inT : SimC K EK (rInT K false) opInT := fun H h x y d e Q hr rx ry ⟨a, kvs, he, ha, hi, ko, kd, run⟩ => by
  subst he
  obtain ⟨l, hl, pr⟩ := hr a _ ha
  match d, hi, rx with
  | .tup xs, hi, .tup sq rr => exact ⟨a, _, l, kvs, .tup xs, rfl, rep_ref ry, hl, pr, .tup sq rr, ko, kd, by simpa using run H Ext.refl hr⟩
def stT : D → D → D → W Unit
  | .ref a, k, v => ⟨fun h Q _ => ∃ kvs, h a = some (.dT kvs) ∧ isTup k = true ∧ keyOk k = true ∧ (nk k).depth ≤ 8 ∧ kvs.length < sizeLine ∧ Q () (h.upd a (.dT (putT kvs k v))), fun g ⟨xs, j, p, q, z, y, k⟩ => ⟨xs, j, p, q, z, y, g _ _ k⟩⟩
  | _, _, _ => W.fail
def putL (l : List (NestedKey × Addr × V)) (k : NestedKey) (b : Addr) (v : V) : List (NestedKey × Addr × V) :=
  if k ∈ l.map (·.1) then l.map (fun p => if p.1 = k then (p.1, p.2.1, v) else p) else l ++ [(k, b, v)]
theorem atKey_mem {xs : List (NestedKey × Addr × Value)} {k : NestedKey} : (atKey xs k).isSome = decide (k ∈ xs.map (·.1)) := by
  induction xs with
  | nil => rfl
  | cons x xs ih =>
    unfold atKey at ih ⊢
    rw [List.find?_cons]
    by_cases h : x.1 = k
    · simp [h]
    · rw [decide_eq_false h]
      simp only at ih ⊢
      rw [ih]
      have : ¬ k = x.1 := fun e => h e.symm
      simp [this]
theorem paired_map {α β γ δ : Type} {F : α → β → Prop} {G : γ → δ → Prop} {f : α → γ} {g : β → δ} (h : ∀ a b, F a b → G (f a) (g b)) : ∀ {l : List α} {m : List β}, Paired F l m → Paired G (l.map f) (m.map g)
  | _, _, .nil => .nil
  | _, _, .cons r t => .cons (h _ _ r) (paired_map h t)
theorem paired_snoc {α β : Type} {F : α → β → Prop} {a : α} {b : β} (h : F a b) : ∀ {l : List α} {m : List β}, Paired F l m → Paired F (l ++ [a]) (m ++ [b])
  | _, _, .nil => .cons h .nil
  | _, _, .cons r t => .cons r (paired_snoc h t)
theorem putL_V {l : List (NestedKey × Addr × V)} {xs : List (NestedKey × Addr × Value)} (px : Paired EntV l xs) (k : NestedKey) (b : Addr) {v : V} {u : Value} (r : RelV v u) : Paired EntV (putL l k b v) (storedH xs k b u) := by
  unfold putL storedH
  rw [ent_keys px, atKey_mem]
  by_cases h : k ∈ xs.map (·.1)
  · rw [if_pos h, if_pos (by simpa using h)]
    refine paired_map (fun p q c => ?_) px
    unfold putAt
    by_cases e : p.1 = k
    · rw [if_pos e, if_pos (by rw [← c.1]; exact e)]; exact ⟨c.1, c.2.1, r⟩
    · rw [if_neg e, if_neg (by rw [← c.1]; exact e)]; exact c
  · rw [if_neg h, if_neg (by simpa using h)]
    exact paired_snoc ⟨rfl, rfl, r⟩ px
theorem findT_mem {l : List (NestedKey × Addr × V)} {kvs : List (D × D)} {k : D} (pr : Paired (EntR K H) l kvs) : (findT kvs k).isSome = decide (nk k ∈ l.map (·.1)) := by
  induction pr with
  | nil => rfl
  | @cons p q l kvs c pr ih =>
    unfold findT at ih ⊢
    rw [List.find?_cons]
    by_cases h : nk q.1 = nk k
    · simp [h, c.1]
    · rw [decide_eq_false h]
      simp only at ih ⊢
      rw [ih]
      have : ¬ nk k = p.1 := fun e => h (by rw [e, c.1])
      simp [this]
theorem putL_D {l : List (NestedKey × Addr × V)} {kvs : List (D × D)} (pr : Paired (EntR K H) l kvs) {k d : D} {b : Addr} {v : V} (h1 : (nk k).depth ≤ 8) (h2 : keyOk k = true) (h3 : Rep K H (.ref b) k) (h4 : Rep K H v d) :
    Paired (EntR K H) (putL l (nk k) b v) (putT kvs k d) := by
  unfold putL putT
  rw [findT_mem pr]
  by_cases h : nk k ∈ l.map (·.1)
  · rw [if_pos h, if_pos (by simpa using h)]
    refine paired_map (fun p q c => ?_) pr
    by_cases e : p.1 = nk k
    · rw [if_pos e, if_pos (by rw [← c.1]; exact e)]; exact ⟨c.1, c.2.1, c.2.2.1, c.2.2.2.1, h4⟩
    · rw [if_neg e, if_neg (by rw [← c.1]; exact e)]; exact c
  · rw [if_neg h, if_neg (by simpa using h)]
    exact paired_snoc ⟨rfl, h1, h2, h3, h4⟩ pr
theorem putL_len {l : List (NestedKey × Addr × V)} {k : NestedKey} {b : Addr} {v : V} : (putL l k b v).length ≤ l.length + 1 := by
  unfold putL
  split
  · rw [List.length_map]; omega
  · rw [List.length_append, List.length_singleton]; omega
theorem putL_nodup {l : List (NestedKey × Addr × V)} {k : NestedKey} {b : Addr} {v : V} (h : (l.map (·.1)).Nodup) : ((putL l k b v).map (·.1)).Nodup := by
  unfold putL
  split
  · rw [List.map_map]
    have : ((fun x : NestedKey × Addr × V => x.1) ∘ fun p => if p.1 = k then (p.1, p.2.1, v) else p) = fun x => x.1 := by
      funext p; simp only [Function.comp]; split <;> rfl
    rw [this]; exact h
  · rename_i hk
    rw [List.map_append, List.nodup_append]
    exact ⟨h, by simp, by
      intro x hx y hy
      simp only [List.map_cons, List.map_nil, List.mem_singleton] at hy
      subst hy
      exact fun e => hk (e ▸ hx)⟩
section
open PySem.Spec PyProof.Rows
def GrownH (P : Program) (w : World) (h : Heap) (d : Addr) (xs : List (NestedKey × Addr × Value)) : Prop :=
  ∃ o es, h.get? d = some o ∧ o.ExactDict ∧ o.data = .dict es es.size ∧ es.toList = xs.map (entryOfKey (nestedKind P w)) ∧ (∀ x ∈ xs, (nestedKind P w).is h x.1 x.2.1) ∧ (xs.map (·.1)).Nodup
section
variable {prog : Program} {w : World} {A : Around} {E : Value → Shared → Prop} {s : Shared} {d a : Addr} {xs : List (NestedKey × Addr × Value)} {k : NestedKey} {v : Value}
theorem GrownH.dict {h : Heap} (g : GrownH prog w h d xs) : h.DictOfH (nestedKind prog w) d xs := let ⟨o, es, a, b, c, r⟩ := g; ⟨o, es, es.size, a, b, c, r⟩
theorem stored_in {h h' : Heap} {o : Obj} {es : Array DictEntry} {ep : Nat} (ho : h.get? d = some o) (hd : o.data = .dict es ep) (sb : Heap.SameBut d h h') (his : ∀ x ∈ xs, (nestedKind prog w).is h x.1 x.2.1) (hk : (nestedKind prog w).is h k a) :
    ∀ x ∈ storedH xs k a v, (nestedKind prog w).is h' x.1 x.2.1 := by
  have keep : ∀ {k : NestedKey} {b : Addr}, (nestedKind prog w).is h k b → (nestedKind prog w).is h' k b := fun i => (nestedKind prog w).keeps i ho hd sb
  intro x hx
  unfold storedH at hx
  split at hx
  · obtain ⟨y, hy, rfl⟩ := List.mem_map.mp hx
    have := keep (his y hy)
    unfold putAt
    split <;> exact this
  · rcases List.mem_append.mp hx with z | z
    · exact keep (his x z)
    · rw [List.mem_singleton.mp z]; exact keep hk
theorem stored_nodup (hn : (xs.map (·.1)).Nodup) : ((storedH xs k a v).map (·.1)).Nodup := by
  unfold storedH
  rw [atKey_mem]
  split
  · rw [keys_map_putAt]; exact hn
  · rename_i z
    rw [List.map_append, List.nodup_append]
    refine ⟨hn, by simp, fun x hx y hy => ?_⟩
    simp only [List.map_cons, List.map_nil, List.mem_singleton] at hy
    intro e
    have m : k ∈ xs.map (·.1) := by rw [← hy, ← e]; exact hx
    exact z (decide_eq_true m)
theorem dictSet_grown {Q : Unit → Shared → Prop} (hu : A.units + 8 < cLine) (hk : (nestedKind prog w).is s.heap k a) (g : GrownH prog w s.heap d xs) (hz : xs.length ≤ sizeLine)
    (q : ∀ h' tk, GrownH prog w h' d (storedH xs k a v) → Heap.SameBut d s.heap h' → Q () { s with heap := h', toks := tk }) : wpAny (model prog w) A (dictSet d (.ref a) v) Q E s := by
  obtain ⟨o, es, ho, hx, hd, he, his, hn⟩ := g
  have hs := size_of_entries he
  unfold dictSet
  refine wpAny_holding (wpAny_bind ((nestedKind prog w).pyHash (k := k) hu hk ?_))
  unfold dictSetHashed
  refine wpAny_holding (wpAny_bind (wpAny_dictFind_heap (knd := nestedKind prog w) (s := { s with toks := _ }) hu hk ho hd he his hn (fun no => ?_) (fun j p hj => ?_)))
  · refine wpAny_bind (wpAny_rule (wpAny_updateDictKeys (hz := by omega) (s := { s with toks := _ }) ho hd (q _ _ ⟨_, _, Heap.get?_update_self _ ho (Obj.isFreed_of_dict (Obj.data_mapDictKeys hd _)), hx.mapDictKeys _, (?_ : _ = Data.dict (es.push ⟨(nestedKind prog w).hash k, .ref a, v⟩) _), ?_, stored_in ho hd (Heap.SameBut.update ..) his hk, stored_nodup hn⟩ (Heap.SameBut.update ..))))
    · exact (Obj.data_mapDictKeys hd _).trans (by simp)
    · rw [storedH_new (atKey_none_of_get no)]
      simp [he, entryOfKey]
  · refine wpAny_bind (wpAny_rule (wpAny_bind (wpAny_updateDict (s := { s with toks := _ }) ho hd (wpAny_point (q _ _ ⟨_, _, Heap.get?_update_self _ ho (Obj.isFreed_of_dict (Obj.data_mapDict hd _)), hx.mapDict _, (?_ : _ = Data.dict (es.modify j fun e : DictEntry => { e with val := v }) _), ?_, stored_in ho hd (Heap.SameBut.update ..) his hk, stored_nodup hn⟩ (Heap.SameBut.update ..))))))
    · exact (Obj.data_mapDict hd _).trans (by simp)
    · rw [storedH_old (atKey_of_get hn hj)]
      have := modify_map_putAt (entryOfKey (nestedKind prog w)) (fun e : DictEntry => { e with val := v }) k v (fun _ _ => rfl) hn hj
      rw [← he] at this
      rw [← this]
      simp
theorem setItem_grown {Q : Unit → Shared → Prop} (hu : A.units + 1 + 8 < cLine) (hk : (nestedKind prog w).is s.heap k a) (g : GrownH prog w s.heap d xs) (hz : xs.length ≤ sizeLine)
    (q : ∀ h' tk, GrownH prog w h' d (storedH xs k a v) → Heap.SameBut d s.heap h' → Q () { s with heap := h', toks := tk }) : wpAny (model prog w) A (setItem (.ref d) (.ref a) v) Q E s := by
  have hm := g.dict
  unfold setItem
  refine wpAny_holding ?_
  refine wpAny_bind (wpAny_sequenceKey hm.typeIs (by decide) ?_)
  refine wpAny_bind (wpAny_callSpecial?_slot (name := Str.ofString "__setitem__") hm.typeIs slot_dict_setitem (wpAny_call_entry slot_dict_setitem hm.typeIs entry_dict_setitem ?_ (args_dict_setitem _ _ _)))
  show wpAny _ _ (Builtin.Dict.notOrdered "__setitem__" ⟨[.ref d, .ref a, v], []⟩ >>= _) _ _ s
  refine wpAny_bind (wpAny_notOrdered_dict hm.typeIs ?_)
  show wpAny _ _ (dictSet d (.ref a) v >>= _) _ _ s
  exact wpAny_bind (dictSet_grown hu hk g hz fun h' tk g' sb => wpAny_pure ⟨.none, rfl, wpAny_pure (q h' tk g' sb)⟩)
theorem dictSetDefault_grown {Q : Value → Shared → Prop} (hu : A.units + 8 < cLine) (hk : (nestedKind prog w).is s.heap k a) (g : GrownH prog w s.heap d xs) (hz : xs.length ≤ sizeLine)
    (h1 : ∀ p, atKey xs k = some p → ∀ tk, Q p.2 { s with toks := tk })
    (h2 : atKey xs k = none → ∀ h' tk, GrownH prog w h' d (storedH xs k a v) → Heap.SameBut d s.heap h' → Q v { s with heap := h', toks := tk }) : wpAny (model prog w) A (dictSetDefault d (.ref a) v) Q E s := by
  obtain ⟨o, es, ho, hx, hd, he, his, hn⟩ := g
  have hs := size_of_entries he
  unfold dictSetDefault
  refine wpAny_holding (wpAny_bind ((nestedKind prog w).pyHash (k := k) hu hk ?_))
  refine wpAny_bind (wpAny_dictFind_heap (knd := nestedKind prog w) (s := { s with toks := _ }) hu hk ho hd he his hn (fun no => ?_) (fun j p hj => ?_))
  · refine wpAny_bind (wpAny_rule (wpAny_bind (wpAny_updateDictKeys (hz := by omega) (s := { s with toks := _ }) ho hd (wpAny_pure (h2 (atKey_none_of_get no) _ _ ⟨_, _, Heap.get?_update_self _ ho (Obj.isFreed_of_dict (Obj.data_mapDictKeys hd _)), hx.mapDictKeys _, (?_ : _ = Data.dict (es.push ⟨(nestedKind prog w).hash k, .ref a, v⟩) _), ?_, stored_in ho hd (Heap.SameBut.update ..) his hk, stored_nodup hn⟩ (Heap.SameBut.update ..))))))
    · exact (Obj.data_mapDictKeys hd _).trans (by simp)
    · rw [storedH_new (atKey_none_of_get no)]
      simp [he, entryOfKey]
  · refine wpAny_bind (wpAny_dictEntries (s := { s with toks := _ }) ho hd ?_)
    rw [entry_at he j, hj]
    exact wpAny_bind (wpAny_rule (wpAny_pure (h1 p (atKey_of_get hn hj) _)))
end
theorem dictG_of {X : Cx} {pins : List (Addr × Obj)} {σ : L2.St} {H : Hp} {s : Shared} {l : List (NestedKey × Addr × V)} {kvs : List (D × D)} {a : Addr} (I : Inv X pins σ H s) (e : H a = some (DictO X.prog X.w a l)) (pr : Paired (EntR X.gx H) l kvs) :
    (a == sysModules) = false ∧ ∃ xs : List (NestedKey × Addr × Value), Paired EntV l xs ∧ GrownH X.prog X.w s.heap a xs ∧ xs.length ≤ sizeLine := by
  obtain ⟨⟨n1, n2, nd, xs, px, o, es, h1, h2, h3, h4⟩, _⟩ := I.hok a _ e
  exact ⟨n1, xs, px, ⟨o, es, h1, h2, h3, h4, ent_is I pr px, by rw [← ent_keys px]; exact nd⟩, by rw [← Paired.length px]; exact n2⟩
end
def rSetT (K : Gx) : TSet := fun x y z H Q => ∃ a b l kvs k, x = .ref a ∧ y = .ref b ∧ H a = some (DictO K.P K.w a l) ∧ Paired (EntR K H) l kvs ∧ Rep K H (.ref b) k ∧ keyOk k = true ∧ (nk k).depth ≤ 8 ∧ l.length < sizeLine ∧ Q (upd H a (DictO K.P K.w a (putL l (nk k) b z)))
theorem set_T (hu : X.A.units + 64 < cLine) : PSet X (rSetT X.gx) := by
  intro pins s σ H o i v ov iv u Q I ro ri rv h
  obtain ⟨a, b, l, kvs, k, rfl, rfl, e, pr, rk, ko, kd, hl, q⟩ := h
  cases ro; cases ri
  obtain ⟨n1, xs, px, hd, hz⟩ := dictG_of I e pr
  have nd := (I.hok a _ e).1.2.2.1
  refine setItem_grown (show X.A.units + 1 + 8 < cLine by omega) (⟨nk_is I rk rfl ko, kd⟩ : NestedIs s.heap (nk k) (.ref b) ∧ _) hd hz (fun h' tk hd' sb => ?_)
  obtain ⟨o, es, h1, h2, h3, h4, h5, h6⟩ := hd'
  refine ⟨_, I.write (e := a) (t' := tk) (by rw [e]; trivial) (.inl rfl) (fun b u hb hu => (sb.2 b hb).trans hu) ⟨o, h1⟩ (dictO_ok ⟨n1, Nat.le_trans putL_len hl, putL_nodup nd, _, putL_V px _ _ rv, o, es, h1, h2, h3, h4⟩), q⟩
theorem s_setT : SimS K EK (rSetT K) stT := fun H h x y z d e f Q hr rx ry rz run => by
  match d, e, rx, ry, run with
  | .ref a, .tup ks, rx, @Rep.tup _ _ b vs _ sq rr, ⟨kvs, ha, hi, ko, kd, hl, run⟩ =>
    obtain ⟨l, he, pr⟩ := hr a _ ha
    have ex : Ext K H (L2.upd H a (DictO K.P K.w a (putL l (nk (.tup ks)) b z))) := Ext.wrote he (fun _ w => by cases w) (fun _ _ w => by cases w)
    refine ⟨a, b, l, kvs, .tup ks, rep_ref rx, rfl, he, pr, .tup sq rr, ko, kd, by rw [Paired.length pr]; exact hl, run _ ex (hr.wrote he (fun _ w => by cases w) (fun _ _ w => by cases w) ⟨_, upd_same, ?_⟩)⟩
    exact L2.Paired.mapP (putL_D pr kd ko (.tup sq rr) rz) fun _ _ ⟨a, b, c, d, f⟩ => ⟨a, b, c, d.mono ex, f.mono ex⟩
theorem de_newT {r : Lo} {pos : Pos} : DE X EK r (.Dict [] [] pos) (W.new (.dT [])) := by
  refine ⟨⟨fun pins s σ H Q I ⟨h, l, hr, run⟩ => ?_⟩⟩
  have hp : H s.heap.objs.size = none := I.hok.fresh (Nat.le_refl _)
  refine wpAny_Dict_empty ⟨.ref s.heap.objs.size, _, I.laid (a := s.heap.objs.size) (o := DictO X.prog X.w s.heap.objs.size []) (t' := s.toks) (fun _ _ q => Heap.get?_push_of_some _ q) (Nat.le_refl _)
    (dictO_ok ⟨?_, Nat.zero_le _, List.nodup_nil, [], .nil, _, #[], Heap.get?_push_size _ rfl, ⟨rfl, rfl, rfl⟩, rfl, rfl⟩), rfl, ?_⟩
  · exact beq_eq_false_iff_ne.mpr (Nat.ne_of_gt I.big)
  · exact run _ (hr.none hp) _ _ (Ext.laid hp) (hr.laid hp ⟨[], upd_same, .nil⟩) (.ref _)
def rLenT (K : Gx) : List V → Hp → VK → Prop := fun xs H Q => ∃ a l kvs, xs = [.ref a] ∧ H a = some (DictO K.P K.w a l) ∧ Paired (EntR K H) l kvs ∧ Q (.int l.length) H
theorem c_lenT : CallR X (.builtin "len") (rLenT X.gx) := by
  intro pins s σ H xs us Q I r h
  obtain ⟨a, l, kvs, rfl, e, pr, q⟩ := h
  rw [Vals.ref1 r]
  obtain ⟨n1, xs, px, hd, hz⟩ := dictR_of I e pr
  have hl := Paired.length px
  have := line63
  refine call_len_dictH (knd := nestedKind X.prog X.w) n1 hd (by omega) ?_
  exact ⟨.int l.length, H, I.tok _, ⟨_, by rw [hl]⟩, q⟩
def bLenT : List D → W D
  | [.ref a] => ⟨fun h Q _ => ∃ kvs, h a = some (.dT kvs) ∧ Q (.int kvs.length) h, fun g ⟨xs, a, b⟩ => ⟨xs, a, g _ _ b⟩⟩
  | _ => W.fail
theorem s_lenT : SimL K EK (rLenT K) bLenT := fun H h xs ds Q hr rp run => by
  match ds, rp, run with
  | [.ref a], rp, ⟨kvs, ha, run⟩ =>
    obtain ⟨v, rfl, r1⟩ := reps1 rp
    obtain ⟨l, he, pr⟩ := hr a _ ha
    exact ⟨a, l, kvs, by rw [rep_ref r1], he, pr, by rw [Paired.length pr]; exact run _ H Ext.refl hr (.int _)⟩
end
end DL
namespace DL
open PySem L2

section
variable {prog : Program} {w : World} {A : Around} {E : Value → Shared → Prop} {s : Shared}
theorem code_kds {K : PySem.W.Frag} {cd : Value} {q : Str} (h : PySem.W.codeIn K cd q = true) : PySem.W.kdsCode K cd = true := by
  unfold PySem.W.codeIn at h
  split at h
  · rename_i c
    split at h
    · rename_i e
      unfold PySem.W.kdsCode
      simp only [e]
    · cases h
  · cases h
end
def two (i j : Int) : Int → Bool := fun k => (false || decide (k = i)) || decide (k = j)
section
variable {X : Cx} {EK : EKt} {K : Gx} {r : Lo} {a b : Expr} {ma mb : W D} {pos : Pos} {pins : List (Addr × Obj)} {σ : L2.St} {H : Hp} {s : Shared} {p : Addr} {h' : Heap} {tk : Nat}
def bSortI : List D → W D
  | [.ref a] => ⟨fun h Q _ => ∃ S n, h a = some (.iset S n) ∧ n < 64 ∧ ∀ (ns : List Int) (p : Addr), ns.Pairwise (· < ·) → (∀ k : Int, k ∈ ns ↔ S k = true) → ns.length = n → h p = none → Q (.ref p) (h.upd p (.lst (ns.map D.int))), fun g ⟨a, b, c, d, e⟩ => ⟨a, b, c, d, fun ns p h1 h2 h3 h4 => g _ _ (e ns p h1 h2 h3 h4)⟩⟩
  | _ => W.fail
theorem s_sortI : SimL K EK (rSortedSet K.w) bSortI := fun H h xs ds Q hr rp run => by
  match ds, rp, run with
  | [.ref a], rp, ⟨S, n, ha, hn, run⟩ =>
    obtain ⟨v, rfl, r1⟩ := reps1 rp
    exact ⟨a, S, n, by rw [rep_ref r1], hr a _ ha, hn, fun ns p h1 h2 h3 hp => run ns p h1 h2 h3 (hr.none hp) _ _ (Ext.laid hp) (hr.laid hp ⟨_, upd_same, ints_reps ns⟩) (.ref p)⟩
theorem notIn_of {M : Model} {A : Around} {E : Value → Shared → Prop} {s : Shared} {x y : Value} {Q : Value → Shared → Prop} (h : wpAny M A (contains y x) (fun b s' => Q (.bool (!b)) s') E s) : wpAny M A (compareOp .NotIn x y) Q E s := by
  show wpAny M A (do return .bool (!(← contains y x))) Q E s
  exact wpAny_bind (thn h fun b s' q => wpAny_pure q)
theorem in_contains {M : Model} {A : Around} {E : Value → Shared → Prop} {s : Shared} {x y : Value} {Q : Value → Shared → Prop} (h : wpAny M A (compareOp .In x y) Q E s) : wpAny M A (contains y x) (fun b s' => Q (.bool b) s') E s := by
  intro Γ p hΓ
  have z := (show wpAny M A (contains y x >>= fun b => pure (Value.bool b)) Q E s from h) Γ p hΓ
  rw [Sem.wp_bind'] at z
  exact z
theorem o_ninT (hu : X.A.units + 64 < cLine) : OpR X (compareOp .NotIn) (rInT X.gx true) := by
  intro pins s σ H x y v u Q I rx ry h
  obtain ⟨a, k, l, kvs, d, e1, e2, e, pr, rp, ko, kd, q⟩ := h
  have z := o_inT hu pins s σ H x y v u (fun v H' => v = .bl (findT kvs d).isSome ∧ H' = H) I rx ry ⟨a, k, l, kvs, d, e1, e2, e, pr, rp, ko, kd, rfl, rfl⟩
  refine notIn_of (thn (in_contains z) fun b s' ⟨v', H', I', r', z1, z2⟩ => ?_)
  subst z1 z2
  cases r'
  exact ⟨.bl _, _, I', rfl, by simpa using q⟩
theorem s_ninT : SimC K EK (rInT K true) opNinT := fun H h x y d e Q hr rx ry ⟨a, kvs, he, ha, hi, ko, kd, run⟩ => by
  subst he
  obtain ⟨l, hl, pr⟩ := hr a _ ha
  match d, hi, rx with
  | .tup xs, hi, .tup sq rr => exact ⟨a, _, l, kvs, .tup xs, rfl, rep_ref ry, hl, pr, .tup sq rr, ko, kd, by simpa using run H Ext.refl hr⟩
end
end DL
namespace DL
open PySem L2

def appW (p d : D) : W Unit := match p with
  | .ref a => ⟨fun h Q _ => ∃ acc, h a = some (.lst acc) ∧ acc.length < sizeLine ∧ Q () (h.upd a (.lst (acc ++ [d]))), fun g ⟨xs, p, q, k⟩ => ⟨xs, p, q, g _ _ k⟩⟩
  | _ => W.fail
@[reducible] def putO (p : D) : Option D → W Unit
  | none => W.pure ()
  | some d => appW p d
def compW (chk : DH → Prop) (body : D → W (Option D)) (p : D) : List D → W Unit
  | [] => chkW chk (W.pure ())
  | x :: xs => chkW chk ((body x).bind fun o => (putO p o).bind fun _ => compW chk body p xs)
@[reducible] def eComp (src : W Src) (body : D → W (Option D)) : W D := src.bind fun s => (W.new (.lst [])).bind fun p => (compW s.chk body p s.xs).bind fun _ => W.pure p
@[reducible] def item (t : W Bool) (e : W D) : W (Option D) := wIte t (e.bind fun d => W.pure (some d)) (W.pure none)

structure DTs (X : Cx) (EK : EKt) (r : Lo) (ifs : List Expr) (m : W Bool) : Prop where
  pts : PTs X ifs (tT X.gx EK r m)
section
variable {X : Cx} {EK : EKt} {r : Lo} {c : Expr} {m : W Bool}
theorem dts_nil : DTs X EK r [] (W.pure true) := ⟨⟨fun p s σ H Q I ⟨h, l, hr, run⟩ => pts_nil.run p s σ H Q I (run H Ext.refl hr)⟩⟩
theorem dts_one (h : DT X EK r c m) : DTs X EK r [c] m := ⟨pts_one h.pt⟩
end
def wipeD (r : Lo) : List Nat → Lo
  | [] => r
  | v :: vs => (wipeD r vs).set v none
section
variable {K : Gx} {H : Hp} {r : Lo} {σ : L2.St}
theorem LRel.wipe (l : LRel K H r σ) : ∀ vs : List Nat, LRel K H (wipeD r vs) (wipe σ vs)
  | [] => l
  | v :: vs => by
    have ih := LRel.wipe l vs
    refine ⟨by unfold DL.wipeD L2.wipe; rw [List.length_set, List.length_set]; exact ih.len, fun i d q => ?_⟩
    unfold DL.wipeD at q
    by_cases hi : i = v
    · subst hi
      rw [List.getElem?_set] at q
      rw [if_pos rfl] at q
      split at q <;> cases q
    · rw [List.getElem?_set_ne (Ne.symm hi)] at q
      obtain ⟨u, h1, h2⟩ := ih.at_ i d q
      exact ⟨u, by unfold L2.wipe; rw [List.getElem?_set_ne (Ne.symm hi)]; exact h1, h2⟩
theorem wipe_get : ∀ (vs : List Nat) (σ : L2.St) (i : Nat), (wipe σ vs)[i]? = if i ∈ vs then (if i < σ.length then some none else none) else σ[i]?
  | [], σ, i => by simp [wipe]
  | v :: vs, σ, i => by
    unfold wipe
    rw [List.getElem?_set, wipe_get vs σ i, wipe_length]
    by_cases h : v = i
    · subst h; simp
    · rw [if_neg h]
      have : (i ∈ v :: vs) ↔ i ∈ vs := by simp [Ne.symm h]
      simp only [this]
theorem setV_get : ∀ (is : List Nat) (us : List V) (σ : L2.St) (i : Nat), i ∉ is → (setV σ is us)[i]? = σ[i]?
  | [], us, σ, i, _ => by cases us <;> rfl
  | j :: is, [], σ, i, _ => rfl
  | j :: is, u :: us, σ, i, h => by
    show (setV (σ.set j (some u)) is us)[i]? = σ[i]?
    rw [setV_get is us _ i (fun z => h (List.mem_cons_of_mem _ z)), List.getElem?_set_ne (fun e => h (by simp [e]))]
theorem setV_len : ∀ (is : List Nat) (us : List V) (σ : L2.St), (setV σ is us).length = σ.length
  | [], us, σ => by cases us <;> rfl
  | j :: is, [], σ => rfl
  | j :: is, u :: us, σ => by
    show (setV (σ.set j (some u)) is us).length = σ.length
    rw [setV_len is us, List.length_set]
theorem wipe_setV {vs is : List Nat} (h : ∀ i ∈ is, i ∈ vs) (us : List V) : wipe (setV (wipe σ vs) is us) vs = wipe σ vs := by
  refine List.ext_getElem? fun i => ?_
  rw [wipe_get]
  by_cases hi : i ∈ vs
  · rw [if_pos hi, setV_len, wipe_length, wipe_get, if_pos hi]
  · rw [if_neg hi, setV_get _ _ _ _ (fun z => hi (h i z))]
end

section
variable {X : Cx} {EK : EKt} {L C : Type} {Jn : C → Lo} {Jl : L → Lo} {r : Lo} {rest : List Stmt} {elt tg iter : Expr} {ifs : List Expr} {scope : Scope} {own : List (Str × Nat)} {pos spos : Pos} {src : W Src} {p : Pat} {is : List Nat} {mt : List D → W Bool} {me : List D → W D}
abbrev Blk (X : Cx) (scope : Scope) (s : Shared) (H : Hp) (C : Addr) (cl : List (Str × Addr)) (fp : List Addr) : Cx := X.blk s H scope (compEnvC scope cl C X.env) fp
abbrev ttOf (K : Gx) (EK : EKt) (r : Lo) (is : List Nat) (mt : List D → W Bool) : TT := fun σ H Q => ∃ ds, tT K EK (setD ds r is 0) (mt ds) σ H Q
abbrev teOf (K : Gx) (EK : EKt) (r : Lo) (is : List Nat) (me : List D → W D) : TE := fun σ H Q => ∃ ds, tE K EK (setD ds r is 0) (me ds) σ H Q
theorem lc_sim (ho : ∀ i ∈ is, i ∈ own.map (·.2)) (hl : is.length = p.size) {σ : L2.St} {H : Hp} {Q : VK} (x : tE X.gx EK r (eComp src fun d => uP p d fun ds => item (mt ds) (me ds)) σ H Q) :
    tLc (tI X.gx EK r src) (tP X.gx p is) (ttOf X.gx EK (wipeD r (own.map (·.2))) is mt) (teOf X.gx EK (wipeD r (own.map (·.2))) is me) (own.map (·.2)) σ H Q := by
  obtain ⟨h, l, hr, run⟩ := x
  refine ⟨h, l, hr, src.mono (fun s h1 run1 J H1 e1 hr1 js L hL => ?_) run⟩
  have run2 := run1 L (hr1.none hL)
  let body : D → W (Option D) := fun d => uP p d fun ds => item (mt ds) (me ds)
  let Qe : Unit → DH → Prop := fun _ h' => ∀ H', Ext X.gx H H' → HRel X.gx H' h' → Q (.ref L) H'
  have eL : Ext X.gx H1 (L2.upd H1 L (.lst [])) := Ext.laid hL
  have r0 : HRel X.gx (L2.upd H1 L (.lst [])) (h1.upd L (.lst [])) := hr1.laid (d := .lst []) hL ⟨[], upd_same, .nil⟩
  refine ⟨fun i m H' => (m = s.xs.length - i ∧ i ≤ s.xs.length) ∧ Ext X.gx H1 H' ∧ ∃ h', HRel X.gx H' h' ∧ (compW s.chk body (.ref L) (s.xs.drop i)).run h' Qe EK, ⟨_, ⟨rfl, Nat.zero_le _⟩, eL, _, r0, ?_⟩, ?_⟩
  · rw [List.drop_zero]
    exact (compW s.chk body (.ref L) s.xs).mono (fun _ h' q H' e' hr' => q (.ref L) H' e' hr' (.ref L)) run2
  · rintro i m H' ⟨⟨rfl, hle⟩, e', h', hr', run'⟩
    by_cases hi : i < s.xs.length
    · right
      rw [List.drop_eq_getElem_cons hi] at run'
      obtain ⟨ck, run'⟩ := run'
      refine ⟨js.go i H' h' e' hr' ck hi, fun H2 => Ext X.gx H1 H2 ∧ ∃ h', HRel X.gx H2 h' ∧ (compW s.chk body (.ref L) (s.xs.drop (i + 1))).run h' Qe EK, fun H2 z => ⟨_, by omega, ⟨rfl, hi⟩, z⟩, ?_⟩
      intro y H2 hy
      obtain ⟨e2, hr2, d, hd, rd⟩ := js.yld i H' h' y H2 e' hr' ck hi hy
      have hd' : s.xs[i] = d := by
        rw [List.getElem?_eq_getElem hi] at hd
        exact Option.some.inj hd
      rw [hd'] at run'
      obtain ⟨ds, ef, run'⟩ := run'
      refine ⟨d, ds, rd, ef, fun us ru => ⟨wipe_setV ho us, ds, h', ?_, hr2, (mt ds).mono (fun b h3 q H3 e3 hr3 => ?_) (ite_run run')⟩⟩
      · have l' := ((l.mono (e1.trans (e'.trans e2))).wipe (own.map (·.2))).setV (ds0 := ds) (is := is) (k := 0) ru (by rw [ru.length, Pat.flat_len p d ds ef, hl]) rfl
        exact l'
      · cases b with
        | false =>
          rw [if_neg Bool.false_ne_true] at q ⊢
          exact ⟨e'.trans (e2.trans e3), h3, hr3, q⟩
        | true =>
          rw [if_pos rfl] at q ⊢
          have l' := (((l.mono (e1.trans (e'.trans e2))).wipe (own.map (·.2))).setV (ds0 := ds) (is := is) (k := 0) ru (by rw [ru.length, Pat.flat_len p d ds ef, hl]) rfl).mono e3
          refine ⟨ds, h3, l', hr3, (me ds).mono (fun v h4 q4 w H4 e4 hr4 rp4 => ?_) q⟩
          obtain ⟨acc, ha, hz, q5⟩ := q4
          obtain ⟨vs, hv, rr⟩ := hr4 L _ ha
          obtain ⟨e5, hr5⟩ := wrote_lst hr4 hv (rr.append (.cons rp4 .nil))
          exact ⟨vs, hv, by rw [rr.length]; exact hz, e'.trans (e2.trans (e3.trans (e4.trans e5))), _, hr5, q5⟩
    · left
      rw [List.drop_eq_nil_of_le (Nat.le_of_not_lt hi)] at run'
      obtain ⟨ck, run'⟩ := run'
      exact ⟨js.stop i H' h' e' hr' ck (Nat.le_antisymm hle (Nat.le_of_not_lt hi)), run' H' (e1.trans e') hr'⟩
theorem pts_of {Y : Cx} (h : ∀ ds, DTs Y EK (setD ds r is 0) ifs (mt ds)) : PTs Y ifs (ttOf Y.gx EK r is mt) := ⟨fun p s σ H Q I ⟨ds, x⟩ => (h ds).pts.run p s σ H Q I x⟩
theorem pe_of {Y : Cx} (h : ∀ ds, DE Y EK (setD ds r is 0) elt (me ds)) : PE Y elt (teOf Y.gx EK r is me) := ⟨fun p s σ H Q I ⟨ds, x⟩ => (h ds).pe.run p s σ H Q I x⟩
theorem de_lc (hc : X.calm = true) (hN : X.N.Nodup) (hi : DI X EK r tg iter src) (ok : BlkOk X.N X.env.scope scope own) (hlen : is.length = p.size)
    (hg : ∀ s H C cl fp, DG (Blk X scope s H C cl fp) tg p is) (ht : ∀ s H C cl fp ds, DTs (Blk X scope s H C cl fp) EK (setD ds (wipeD r (own.map (·.2))) is 0) ifs (mt ds))
    (he : ∀ s H C cl fp ds, DE (Blk X scope s H C cl fp) EK (setD ds (wipeD r (own.map (·.2))) is 0) elt (me ds)) (ho : ∀ i ∈ is, i ∈ own.map (·.2) := by decide) (hs : ∀ x, foldedSetIterable iter X.env x = pure x := by intro _; rfl) :
    DE X EK r (.ListComp elt [⟨tg, iter, ifs, 0⟩] scope pos) (eComp src fun d => uP p d fun ds => item (mt ds) (me ds)) :=
  ⟨pe_weak (pe_lc hc hN hi.pi ok (fun s H C cl fp => (hg s H C cl fp).pg) (fun s H C cl fp => pts_of (ht s H C cl fp)) (fun s H C cl fp => pe_of (he s H C cl fp)) hs) fun σ H Q x => lc_sim ho hlen x⟩
theorem db_letLc {y : Str} {py : Pos} {k : D → W (Fl L C)} (i : Nat) (hc : X.calm = true) (hN : X.N.Nodup) (hy : X.N[i]? = some y) (hyl : X.env.scope.names.lookup y = some .local)
    (hsw : swapsWith (.ListComp elt [⟨tg, iter, ifs, 0⟩] scope pos) (some (.Name y py)) spos.line X.env = pure true) (hi : DI X EK r tg iter src) (ok : BlkOk X.N X.env.scope scope own) (hlen : is.length = p.size)
    (hg : ∀ s H C cl fp, DG (Blk X scope s H C cl fp) tg p is) (ht : ∀ s H C cl fp ds, DTs (Blk X scope s H C cl fp) EK (setD ds (wipeD r (own.map (·.2))) is 0) ifs (mt ds))
    (he : ∀ s H C cl fp ds, DE (Blk X scope s H C cl fp) EK (setD ds (wipeD r (own.map (·.2))) is 0) elt (me ds)) (h2 : ∀ d, DB X EK Jn Jl (r.set i (some d)) rest (k d)) (ho : ∀ i ∈ is, i ∈ own.map (·.2) := by decide) (hs : ∀ x, foldedSetIterable iter X.env x = pure x := by intro _; rfl) :
    DB X EK Jn Jl r (.Assign [.Name y py] (.ListComp elt [⟨tg, iter, ifs, 0⟩] scope pos) spos :: rest) ((eComp src fun d => uP p d fun ds => item (mt ds) (me ds)).bind k) := by
  let u : TS := fun D σ H => ∃ d, tB X.gx EK (r.set i (some d)) Jn Jl (k d) D σ H
  have hu : PSs X rest u := ⟨fun p s σ H D I ⟨c, x⟩ => (h2 c).ps.run p s σ H D I x⟩
  refine ⟨pss_weak (pss_cons (ps_setLc (wi := tI X.gx EK r src) (g := tP X.gx p is) (tt := ttOf X.gx EK (wipeD r (own.map (·.2))) is mt) (te := teOf X.gx EK (wipeD r (own.map (·.2))) is me) hc hN hy hyl hsw hi.pi ok (fun s H C cl fp => (hg s H C cl fp).pg) (fun s H C cl fp => pts_of (ht s H C cl fp)) (fun s H C cl fp => pe_of (he s H C cl fp)) hs) hu) ?_⟩
  rintro D σ H ⟨h, l, hr, run⟩
  refine lc_sim (Q := fun x H1 => gName i x σ H1 _) ho hlen ⟨h, l, hr, W.mono _ (fun d h' q v H' e hr' rp => ?_) run⟩
  exact ⟨d, h', (l.mono e).set rp, hr', (k d).mono (fun fl2 h2 q2 σ2 H2 e2 hr2 => q2 σ2 H2 (e.trans e2) hr2) q⟩
end

def numbered : Nat → List D → List D
  | _, [] => []
  | k, x :: xs => .tup [.int k, x] :: numbered (k + 1) xs
theorem numbered_get : ∀ (xs : List D) (k i : Nat), (numbered k xs)[i]? = xs[i]?.map fun x => D.tup [.int ((k + i : Nat) : Int), x]
  | [], k, i => by simp [numbered]
  | x :: xs, k, 0 => by simp [numbered]
  | x :: xs, k, i + 1 => by
    show (numbered (k + 1) xs)[i]? = _
    rw [numbered_get xs (k + 1) i, List.getElem?_cons_succ]
    have : k + 1 + i = k + (i + 1) := by omega
    rw [this]
theorem numbered_len : ∀ (xs : List D) (k : Nat), (numbered k xs).length = xs.length
  | [], _ => rfl
  | _ :: xs, k => by show (numbered (k + 1) xs).length + 1 = _; rw [numbered_len xs]; rfl
section
variable {X : Cx} {EK : EKt} {r : Lo} {tg a b c : Expr} {ma mb mc : W D} {pos p tpos : Pos} {elts : List Expr} {kk : Nat}
end
end DL
namespace DL
open PySem PySem.Spec L2
open PyProof.Rows (IntsAre AllBare)

theorem ints_cl {K : Gx} {H : Hp} {a : Addr} {ns : List Int} (h : SqF K.K H a (ns.map V.int)) : Rep K H (.ref a) (.cl (ns.map D.int)) := .cl h (ints_reps ns)
theorem law_run {P : Program} {w : World} {K : PySem.W.Frag} {mg mb : Str → Option Value} {k : Nat} {fa a : Addr} {fd : FuncData} {x : Str} {f : List D → W D} {s₁ : Shared} {vs : List Value} {ns : List Int}
    (KX : K.In s₁.heap) (hns : s₁.heap.Ns mainGlobals mg) (hb : s₁.heap.Ns builtinsNs mb) (hbb : ∀ x : Str, x ≠ "__name__" → mb x = bootBuiltins x) (hlim : s₁.heap.NoLimit) (hg : s₁.gens = #[])
    (ha : s₁.heap.get? a = some { cls := .type "list", data := .seq vs.toArray }) (hi : IntsAre vs ns) (hl : ns.length ≤ sizeLine) (hr : Room k callerA)
    (hsys : ∃ m, s₁.heap.Ns sysModules m) (F : ∀ base : Heap, K.In base → base.Ns mainGlobals mg → (∃ m, base.Ns sysModules m) → FnG P w K mg base CX0 k fa fd [x] (spF ⟨K, w, P, mg⟩ 1 f)) (hbind : ∀ (s : Shared) (u : Value), BindsTo s fd ⟨[u], []⟩ [(x, u)])
    (hf : (f [.cl (ns.map D.int)]).run (fun _ => none) (fun d _ => d = .bl true) EK0) :
    codeAny (model P w) callerA (.call (.ref fa) ⟨[.ref a], []⟩) (fun r s' => r = .ok (.ret (.bool true)) ∧ OldK s₁.heap s'.heap ∧ s'.os = s₁.os ∧ AllBare s'.gens) s₁ := by
  have rv := vals_ints hi
  have lenV := hi.length
  let ob : Obj := { cls := .type "list", data := .seq vs.toArray }
  -- the script is told of as a list that never changes, or stands in the written part
  obtain ⟨H, hS, hO, ok⟩ : ∃ H : Hp, SqF K H a (ns.map V.int) ∧ (∀ b u, H b = some u → b = a ∧ K.lookup a = none ∧ u = .frz ob (.lst (ns.map V.int))) ∧ HOk P w H s₁.heap := by
    cases hk : K.lookup a with
    | some o =>
      have e := KX a o hk
      rw [ha] at e
      obtain rfl : ob = o := Option.some.inj e
      exact ⟨fun _ => none, .inr ⟨vs.toArray, _, hk, by rw [List.size_toArray, lenV]; exact hl, by simpa using rv⟩, fun b u z => (nomatch z), fun b u z => (nomatch z)⟩
    | none =>
      refine ⟨fun b => if b = a then some (.frz ob (.lst (ns.map V.int))) else none, .inl ⟨ob, if_pos rfl⟩, fun b u z => ?_, fun b u z => ?_⟩
      · by_cases q : b = a
        · subst q
          simp only [if_true] at z
          exact ⟨rfl, rfl, (Option.some.inj z).symm⟩
        · simp [q] at z
      · by_cases q : b = a
        · subst q
          simp only [if_true] at z
          cases z
          exact ⟨ha, by rw [List.length_map]; exact hl, vs, _, rv, ha⟩
        · simp [q] at z
  have old : ∀ {b : Addr} {o : Obj}, s₁.heap.get? b = some o → (∀ es ep, o.data = .dict es ep → True) → (b ≠ a ∨ K.lookup a ≠ none) → (hidT s₁.heap H).get? b = some o := fun {b o} e _ n => hidT_get e (by
    cases q : H b with
    | none => rfl
    | some u =>
      obtain ⟨z1, z2, _⟩ := hO b u q
      rcases n with n | n
      · exact absurd z1 n
      · exact absurd z2 n)
  have nsK : ∀ {b : Addr} {m : Str → Option Value}, s₁.heap.Ns b m → (hidT s₁.heap H).Ns b m := fun {b m} ⟨o, es, ep, e, d, r⟩ => by
    refine ⟨o, es, ep, old e (fun _ _ _ => trivial) (.inl fun z => ?_), d, r⟩
    subst z
    rw [ha] at e; cases e
    cases d
  have hKb : K.In (hidT s₁.heap H) := fun b o e => old (KX b o e) (fun _ _ _ => trivial) (by
    by_cases z : b = a
    · subst z; exact .inr (by rw [e]; simp)
    · exact .inl z)
  have hM : Mod K mg (hidT s₁.heap H) := ⟨hKb, nsK hns, ⟨mb, nsK hb, hbb⟩, let ⟨mc, h1, h2⟩ := hlim; ⟨mc, nsK h1, h2⟩⟩
  have e0 : Env0 P w K mg (hidT s₁.heap H) callerA [] s₁ H :=
    ⟨rfl, hM, fun b o e => of_hidT e, Nat.le_of_eq (hidT_size _ _), trivial, fun b hb => absurd (show b ∈ ([] : List Addr) from hb) (by simp), ok, .of_eq hg⟩
  have hsp : spF ⟨K, w, P, mg⟩ 1 f [.ref a] H (fun v _ => v = .bl true) E0 :=
    ⟨[.cl (ns.map D.int)], fun _ => none, rfl, .cons (ints_cl hS) .nil, fun b o e => (nomatch e), (f _).mono (fun d h' q v H' _ _ rp => by subst q; exact rep_bl rp) hf⟩
  refine codeAny_mono ((F _ hKb (nsK hns) (let ⟨m, e⟩ := hsys; ⟨m, nsK e⟩)).run callerA [] s₁ H ⟨[.ref a], []⟩ [.ref a] [.ref a] _ _ rfl hr e0 (hbind s₁ (.ref a)) (.cons rfl .nil) hsp) fun r s' h => ?_
  match r, h with
  | .ok (.ret u), ⟨v, H', os, bare, un, hok', r', q⟩ =>
    subst q
    obtain rfl : u = Value.bool true := r'
    refine ⟨rfl, OldK.of_keep fun b o e => ?_, os, bare⟩
    cases q : H b with
    | none => exact un.keep b o e q (by intro z; exact absurd (show b ∈ ([] : List Addr) from z) (by simp)) (by simp)
    | some u =>
      obtain ⟨z1, _, z3⟩ := hO b u q
      subst z1 z3
      obtain ⟨e2, _⟩ := hok' b _ (un.frzs b ob _ q)
      rw [ha] at e; cases e
      exact e2
theorem walk_code {l : PySem.W.OpenLaw} {k : Nat} {q : Program} {loose : List Str} {XP : (Str → Option Value) → Heap → Prop} {YP : World → Heap → Prop} {d : DefRec} {K : Params → PySem.W.Frag} {f : List D → W D} {x : Str}
    (hn : l.most = some 63) (hdf : d.params.defaults = []) (hr : Room k callerA) (himp : PyProof.Rows.importsNone q = true) (hY : ∀ (w : World) (h : Heap), YP w h → (K w.params).In h)
    (F : ∀ (w : World) (mg : Str → Option Value) (fa : Addr) (h : Heap), (K w.params).In h → h.Ns mainGlobals mg → mg d.name = some (.ref fa) →
      ∃ fd : FuncData, (∀ (s : Shared) (u : Value), BindsTo s fd ⟨[u], []⟩ [(x, u)]) ∧
        ∀ base : Heap, (K w.params).In base → base.Ns mainGlobals mg → (∃ m, base.Ns sysModules m) → FnG l.prog w (K w.params) mg base CX0 k fa fd [x] (spF ⟨K w.params, w, l.prog, mg⟩ 1 f))
    (hf : ∀ ns : List Int, ns.length ≤ 63 → (f [.cl (ns.map D.int)]).run (fun _ => none) (fun d _ => d = .bl true) EK0) :
    PySem.W.WalkO q loose XP YP l.row.toRowW d [] (fun f vs => PySem.call f vs) := by
  refine Att.attach_call hn hdf fun w s₀ s₁ mg mb fa o pm cd doc a vs ns G Y ho hd hcd hmg hobj hints hlen hg => ?_
  obtain ⟨fd, hb, hF⟩ := F w mg fa _ (hY w _ Y) G.T.g hmg
  exact law_run (hY w _ Y) G.T.g G.T.b G.T.builtins G.T.nolimit hg hobj hints (Nat.le_trans hlen (by decide)) hr (let ⟨m, e, _⟩ := (G.T.seer himp).mods; ⟨m, e⟩) hF hb (hf ns hlen)
end DL
namespace DL
open PySem L2

@[reducible] def W.alt {α : Type} (a b : W α) : W α := ⟨fun h Q E => a.run h Q E ∨ b.run h Q E, fun g x => x.elim (fun y => .inl (a.mono g y)) (fun y => .inr (b.mono g y))⟩
section
variable {X : Cx} {EK : EKt} {K : Gx}
theorem simL_alt {r r' : List V → Hp → VK → Prop} {o o' : List D → W D} (s : SimL K EK r o) (s' : SimL K EK r' o') : SimL K EK (fun x H Q => r x H Q ∨ r' x H Q) (fun d => W.alt (o d) (o' d)) :=
  fun H h x d Q hr rx run => run.elim (fun z => .inl (s H h x d Q hr rx z)) (fun z => .inr (s' H h x d Q hr rx z))
theorem pset_or {t t' : TSet} (a : PSet X t) (b : PSet X t') : PSet X (fun x y z H Q => t x y z H Q ∨ t' x y z H Q) := by
  intro pins s σ H o i v ov iv vv Q I ro ri rv q
  rcases q with q | q
  · exact a pins s σ H o i v ov iv vv Q I ro ri rv q
  · exact b pins s σ H o i v ov iv vv Q I ro ri rv q

theorem o_in (hu : X.A.units + 64 < cLine) : OpR X (compareOp .In) (fun x y H Q => rIn X.K false x y H Q ∨ rInT X.gx false x y H Q) := op_in_seq.or (o_inT hu)
theorem o_nin (hu : X.A.units + 64 < cLine) : OpR X (compareOp .NotIn) (fun x y H Q => rIn X.K true x y H Q ∨ rInT X.gx true x y H Q) := op_notIn_seq.or (o_ninT hu)
theorem c_lenA : CallR X (.builtin "len") (fun xs H Q => rLenA X.K xs H Q ∨ rLenT X.gx xs H Q) := c_len.or c_lenT
theorem set_A (hu : X.A.units + 64 < cLine) : PSet X (fun x y z H Q => rSetL x y z H Q ∨ rSetT X.gx x y z H Q) := pset_or set_list (set_T hu)
variable {r : Lo} {a b c : Expr} {rest : List Expr} {ma mb mc : W D} {pos : Pos}
theorem de_one {op} (ha : DE X EK r a ma) : DE X EK r (.BoolOp op [a] pos) ma := ⟨pe_one ha.pe⟩
end
theorem le_bot : ∀ {r : Lo} {n : Nat}, r.length = n → Le (List.replicate n none) r
  | [], n, e => by subst e; exact .nil
  | a :: r, n, e => by subst e; exact .n (le_bot rfl)
end DL
namespace DL
open PySem L2

def chars (z : Str) : List D := z.cps.toList.map fun c => D.str ⟨#[c]⟩
section
variable {K : Gx} {H H' : Hp} {a : Addr}
theorem jsim_tup {vs : List V} {ds : List D} (s : SqT K.K H a vs) (rr : Reps K H vs ds) : JSim K H (Itt K.K a) ⟨ds, fun _ => True⟩ := by
  refine ⟨fun i H1 h e hr _ hi => ?_, fun i H1 h x H2 e hr _ hi ⟨ey, y⟩ => ?_, fun i H1 h e hr _ hi => ⟨vs, e.t _ _ s, by rw [rr.length]; exact Nat.le_of_eq hi.symm⟩⟩
  · obtain ⟨v, hv, _⟩ := rr.get (List.getElem?_eq_getElem hi)
    exact ⟨vs, v, e.t _ _ s, hv⟩
  · subst ey
    obtain ⟨d, hd, rd⟩ := rr.getV (y vs (e.t _ _ s))
    exact ⟨Ext.refl, hr, d, hd, rd.mono e⟩
theorem jsim_cl {vs : List V} {ds : List D} (s : SqF K.K H a vs) (rr : Reps K H vs ds) : JSim K H (Itl K.K a) ⟨ds, fun _ => True⟩ := by
  refine ⟨fun i H1 h e hr _ hi => ?_, fun i H1 h x H2 e hr _ hi ⟨ey, y⟩ => ?_, fun i H1 h e hr _ hi => ⟨vs, (e.f _ _ s).list, by rw [rr.length]; exact Nat.le_of_eq hi.symm⟩⟩
  · obtain ⟨v, hv, _⟩ := rr.get (List.getElem?_eq_getElem hi)
    exact ⟨vs, v, (e.f _ _ s).list, hv⟩
  · subst ey
    obtain ⟨d, hd, rd⟩ := rr.getV (y vs (e.f _ _ s).list)
    exact ⟨Ext.refl, hr, d, hd, rd.mono e⟩
theorem jsim_lst {xs : List D} : JSim K H (Itl K.K a) ⟨xs, fun h => h a = some (.lst xs)⟩ := by
  refine ⟨fun i H1 h e hr c hi => ?_, fun i H1 h x H2 e hr c hi ⟨ey, y⟩ => ?_, fun i H1 h e hr c hi => ?_⟩
  · obtain ⟨vs, hv, rr⟩ := hr a _ c
    obtain ⟨v, hv', _⟩ := rr.get (List.getElem?_eq_getElem hi)
    exact ⟨vs, v, SqL.of hv, hv'⟩
  · subst ey
    obtain ⟨vs, hv, rr⟩ := hr a _ c
    obtain ⟨d, hd, rd⟩ := rr.getV (y vs (SqL.of hv))
    exact ⟨Ext.refl, hr, d, hd, rd⟩
  · obtain ⟨vs, hv, rr⟩ := hr a _ c
    exact ⟨vs, SqL.of hv, by rw [rr.length]; exact Nat.le_of_eq hi.symm⟩
theorem jsim_str {z : Str} : JSim K H (Its z) ⟨chars z, fun _ => True⟩ := by
  have hl : (chars z).length = z.cps.size := by unfold chars; simp
  refine ⟨fun i H1 h e hr c hi => ?_, fun i H1 h x H2 e hr c hi ⟨ey, y, hy, ev⟩ => ?_, fun i H1 h e hr c hi => ?_⟩
  · show i < z.cps.size
    rw [← hl]; exact hi
  · subst ey; subst ev
    refine ⟨Ext.refl, hr, .str ⟨#[y]⟩, ?_, .str _⟩
    unfold chars
    rw [List.getElem?_map, Array.getElem?_toList, hy]; rfl
  · show z.cps.size ≤ i
    rw [← hl]; exact Nat.le_of_eq hi.symm
end
section
variable {X : Cx} {tg : Expr}
def iRdy (K : PySem.W.Frag) (x : V) (H1 : Hp) (R : It → Hp → Prop) : Prop :=
  (∃ a, x = .ref a ∧ (∃ xs, SqL K H1 a xs) ∧ R (Itl K a) H1) ∨ (∃ a, x = .ref a ∧ (∃ xs, SqT K H1 a xs) ∧ R (Itt K a) H1) ∨ (∃ z, x = .str z ∧ R (Its z) H1)
theorem rdy_run {pins : List (Addr × Obj)} {s : Shared} {σ : L2.St} {H : Hp} {x : V} {v : Value} {R : It → Hp → Prop} (I : Inv X pins σ H s) (r : RelV x v) (q : iRdy X.K x H R) :
    wpAny (model X.prog X.w) X.A (pyIter v) (PIE X pins σ tg R) X.xe s := by
  rcases q with ⟨a, rfl, ⟨xs, hq⟩, q⟩ | ⟨a, rfl, ⟨xs, hq⟩, q⟩ | ⟨z, rfl, q⟩
  · cases r
    obtain ⟨its, rv, p, _⟩ := I.list hq
    exact wpAny_pyIter_list p.isList (pi_one (tk := s.toks) I _ (turn_list a _) ⟨_, Heap.get?_push_size _ rfl, rfl, rfl⟩ q)
  · cases r
    obtain ⟨its, rv, p, _⟩ := I.tuple hq
    exact wpAny_pyIter_tuple (show s.heap.IsTuple a its.toArray from p) (pi_one (tk := s.toks) I _ (turn_tuple a _) ⟨_, Heap.get?_push_size _ rfl, rfl, rfl⟩ q)
  · obtain ⟨t, rfl⟩ := r
    cases ha : z.cps.all (· < 128)
    · exact wpAny_pyIter_wide ha (pi_one (tk := s.toks) I _ (turn_str _ z t "str_iterator" (.inr rfl)) ⟨_, Heap.get?_push_size _ rfl, rfl, rfl⟩ q)
    · exact wpAny_pyIter_ascii ha (pi_one (tk := s.toks) I _ (turn_str _ z t "str_ascii_iterator" (.inl rfl)) ⟨_, Heap.get?_push_size _ rfl, rfl, rfl⟩ q)
variable {EK : EKt} {r : Lo} {e : Expr} {m : W D}
end
end DL
namespace DL
open PySem L2

section
variable {X : Cx} {EK : EKt} {K : Gx}
def cdGet (ks : List Str) (ds : List D) (z : Str) : Option D := (ks.zip ds).lookup z
theorem cd_at {H : Hp} : ∀ {ks : List Str} {vs : List V} {ds : List D} {z : Str} {d : D}, ks.length = vs.length → Reps K H vs ds → cdGet ks ds z = some d → ∃ (i : Nat) (v : V), ks[i]? = some z ∧ vs[i]? = some v ∧ Rep K H v d
  | [], vs, ds, z, d, _, _, e => by simp [cdGet] at e
  | k :: ks, [], _, z, d, hl, _, _ => by simp at hl
  | k :: ks, v :: vs, _, z, d, hl, .cons (d := d0) (ds := ds0) a b, e => by
    unfold cdGet at e
    rw [List.zip_cons_cons, List.lookup_cons] at e
    by_cases hk : z = k
    · subst hk
      simp at e
      subst e
      exact ⟨0, v, rfl, rfl, a⟩
    · have hk' : (z == k) = false := by simpa using hk
      rw [hk'] at e
      obtain ⟨i, u, h1, h2, h3⟩ := cd_at (ks := ks) (by simpa using hl) b e
      exact ⟨i + 1, u, by simpa using h1, by simpa using h2, h3⟩
def opIxCd : D → D → W D
  | .cd ks ds, .str z => W.opt (cdGet ks ds z)
  | _, _ => W.fail
theorem s_ixCd : Sim2 K EK (rIxD K.K K.w) opIxCd := fun H h x y d e Q hr rx ry run => by
  match d, e, rx, run with
  | .cd ks ds, .str z, .cd s rr, ⟨d', ed, run⟩ =>
    rw [rep_str ry]
    obtain ⟨i, v, h1, h2, h3⟩ := cd_at s.len rr ed
    obtain ⟨u, e1, e2⟩ := s.at_ i z v h1 h2
    obtain ⟨es, n, kd⟩ := s.it
    exact ⟨_, z, v, rfl, rfl, ⟨es, n, u, kd.at_, kd.lit, e1, e2⟩, run v H Ext.refl hr h3⟩

def opSlA : D → Option Int → Option Int → W D
  | .tup xs, lo, hi => W.pure (.tup (cutD xs lo hi))
  | .str z, lo, hi => W.need (z.length ≤ sizeLine) (W.pure (.str (cutS z lo hi)))
  | d, lo, hi => opSl d lo hi
def rSlAll (K : PySem.W.Frag) : V → Option Int → Option Int → Hp → VK → Prop := fun x lo hi H Q => rSlL K x lo hi H Q ∨ rSlF K x lo hi H Q ∨ rSlS x lo hi H Q
theorem sl_all : SlR X (rSlAll X.K) := sl_list.or (sl_tupF.or sl_str)
theorem sim_sl {H : Hp} {h : DH} {v : V} {d : D} {lo hi : Option Int} {Q : VK} (hr : HRel K H h) (rp : Rep K H v d)
    (run : (opSlA d lo hi).run h (fun d h' => ∀ v H', Ext K H H' → HRel K H' h' → Rep K H' v d → Q v H') EK) : rSlAll K.K v lo hi H Q := by
  match d, rp, run with
  | .tup xs, .tup (vs := vs) s rr, run =>
    refine .inr (.inl ⟨_, _, rfl, s.1, fun hw => ?_, fun _ p o hp ho => ?_⟩)
    · have e : cutD xs lo hi = xs := by
        unfold cutD
        have hl := rr.length
        rw [← hl, hw.1, hw.2, Nat.sub_zero, List.drop_zero, hl, List.take_length]
      have run' : (W.pure (.tup (cutD xs lo hi)) : W D).run h _ EK := run
      rw [e] at run'
      exact run' _ H Ext.refl hr (.tup s rr)
    · exact run _ _ (Ext.laid hp) (hr.under hp) (.tup (SqP.of ho) ((cut_reps rr lo hi).mono (Ext.laid hp)))
  | .str z, rp, ⟨hz, run⟩ =>
    exact .inr (.inr ⟨z, rep_str rp, hz, run _ H Ext.refl hr (.str _)⟩)
  | .cl ys, .cl s rr, ⟨xs, it, run⟩ =>
    have it : xs = ys := it
    subst it
    exact .inl ⟨_, _, rfl, s.list, fun p hp => run p (hr.none hp) _ _ (Ext.laid hp) (hr.laid hp ⟨_, upd_same, (cut_reps rr lo hi).mono (Ext.laid hp)⟩) (.ref p)⟩
  | .ref a, rp, ⟨xs, it, run⟩ =>
    obtain ⟨vs, hv, rr⟩ := hr a _ it
    exact .inl ⟨_, _, rep_ref rp, SqL.of hv, fun p hp => run p (hr.none hp) _ _ (Ext.laid hp) (hr.laid hp ⟨_, upd_same, (cut_reps rr lo hi).mono (Ext.laid hp)⟩) (.ref p)⟩
variable {r : Lo} {a : _root_.PySem.Expr} {el eh : Option _root_.PySem.Expr} {ma : W D} {ml mh : W (Option Int)} {pos p2 : Pos}
theorem de_slA (ha : DE X EK r a ma) (hl : DO X EK r el ml) (hh : DO X EK r eh mh) : DE X EK r (.Subscript a (.Slice el eh none p2) pos) (ma.bind fun d => ml.bind fun l => mh.bind fun u => opSlA d l u) :=
  ⟨pe_weak (pe_slice sl_all ha.pe hl.po hh.po) fun σ H Q x => glue1 x fun d h' v H' e hr rp l run => by
    refine ⟨h', l, hr, ml.mono (fun lo h1 run1 H1 e1 hr1 => ?_) run⟩
    refine ⟨h1, l.mono e1, hr1, mh.mono (fun hi h2 run2 H2 e2 hr2 => ?_) run1⟩
    refine sim_sl hr2 ((rp.mono e1).mono e2) ((opSlA d lo hi).mono (fun d3 h3 q v3 H3 e3 hr3 rp3 => q v3 H3 (e1.trans (e2.trans e3)) hr3 rp3) run2)⟩

end
section
open PySem.AutoSeq1
open PySem.Sem (wp)
end
section
variable {X : Cx} {EK : EKt} {K : Gx}
theorem ix_A : IxR X (fun x y H Q => rIx X.K x y H Q ∨ rIxD X.K X.w x y H Q) := ix_seq.or ix_kdict
end
end DL
namespace DL
open PySem PySem.Spec L2
open PySem.Sem (wp)
theorem paired_getR {α β : Type} {F : α → β → Prop} : ∀ {l : List α} {m : List β} {j : Nat} {x : β}, Paired F l m → m[j]? = some x → ∃ v, l[j]? = some v ∧ F v x
  | _, _, j, x, .nil, e => by simp at e
  | _, _, 0, x, .cons r _, e => by simp at e; subst e; exact ⟨_, rfl, r⟩
  | _, _, j + 1, x, .cons _ t, e => by
    obtain ⟨v, h1, h2⟩ := paired_getR (j := j) t (by simpa using e)
    exact ⟨v, by simpa using h1, h2⟩
inductive Sd where
  | l (a : Addr) | t (a : Addr) | s (z : Str)
def Sd.u : Sd → Option Addr
  | .l a => some a
  | .t a => some a
  | .s _ => none
def Sd.sq (K : PySem.W.Frag) (H : Hp) (xs : List V) : Sd → Prop
  | .l a => SqL K H a xs
  | .t a => SqT K H a xs
  | .s z => xs = z.cps.toList.map fun c => V.str ⟨#[c]⟩
def Sd.st (it : Addr) (i : Nat) (h : Heap) : Sd → Prop
  | .l a => h.IsListIter it a i
  | .t a => h.IsTupleIter it a i
  | .s z => ∃ t, h.IsStrIter it (strIterType z) z t i
section
variable {X : Cx} {pins : List (Addr × Obj)} {σ : L2.St} {H : Hp} {s : Shared} {A : Around} {it : Addr} {xs : List V} {sd : Sd}
theorem Sd.draw (I : Inv X pins σ H s) (hh : A.handled = none) (q : sd.sq X.K H xs) (hne : sd.u ≠ some it) {i : Nat} (e : sd.st it i s.heap) :
    ∃ (fp : List Addr) (Pv : Nat → Value → Prop) (Sv : Nat → Heap → Prop), Draws X.prog X.w A it fp xs.length Pv Sv ∧ it ∈ fp ∧ (∀ c ∈ fp, c = it ∨ sd.u = some c) ∧ Sv i s.heap ∧ (∀ j h', Sv j h' → sd.st it j h') ∧ (∀ j x, Pv j x → ∃ v, xs[j]? = some v ∧ RelV v x) := by
  cases sd with
  | l a =>
    obtain ⟨its, rv, p, _⟩ := I.list q
    have hl := rv.length
    have hn : a ≠ it := fun z => hne (by rw [z]; rfl)
    have D := Draws.list (prog := X.prog) (w := X.w) hh it a hn its.toArray
    rw [show its.toArray.size = xs.length by rw [List.size_toArray, hl]] at D
    refine ⟨_, _, _, D, by simp, fun c hc => ?_, ⟨e, p.isList⟩, fun j h' y => y.1, fun j x hx => ?_⟩
    · have hc' : c = it ∨ c = a := by simpa using hc
      rcases hc' with z | z
      · exact .inl z
      · exact .inr (by rw [z]; rfl)
    · have hx' : its[j]? = some x := by simpa using hx
      exact paired_getR rv hx'
  | t a =>
    obtain ⟨its, rv, p, _⟩ := I.tuple q
    have hl := rv.length
    have hn : a ≠ it := fun z => hne (by rw [z]; rfl)
    have D := Draws.tuple (prog := X.prog) (w := X.w) hh it a hn its.toArray
    rw [show its.toArray.size = xs.length by rw [List.size_toArray, hl]] at D
    refine ⟨_, _, _, D, by simp, fun c hc => ?_, ⟨e, p⟩, fun j h' y => y.1, fun j x hx => ?_⟩
    · have hc' : c = it ∨ c = a := by simpa using hc
      rcases hc' with z | z
      · exact .inl z
      · exact .inr (by rw [z]; rfl)
    · have hx' : its[j]? = some x := by simpa using hx
      exact paired_getR rv hx'
  | s z =>
    obtain ⟨t, e⟩ := e
    have q' : xs = z.cps.toList.map fun c => V.str ⟨#[c]⟩ := q
    subst q'
    have D := Draws.text (prog := X.prog) (w := X.w) hh it z t
    rw [show z.cps.size = (z.cps.toList.map fun c => V.str ⟨#[c]⟩).length by simp] at D
    refine ⟨_, _, _, D, by simp, fun c hc => .inl (by simpa using hc), e, fun j h' y => ⟨t, y⟩, fun j x hx => ?_⟩
    obtain ⟨c, u, hc, rfl⟩ := hx
    exact ⟨.str ⟨#[c]⟩, by rw [List.getElem?_map, Array.getElem?_toList, hc]; rfl, ⟨u, rfl⟩⟩
end
end DL
namespace DL
open PySem PySem.Spec L2
structure ZAp (z TI TO i1 i2 : Addr) (a b : Sd) : Prop where
  h1 : TI ≠ z
  h2 : TO ≠ z
  h3 : TI ≠ TO
  h4 : TI ≠ i1
  h5 : TI ≠ i2
  h6 : z ≠ i1
  h7 : z ≠ i2
  h8 : TO ≠ i1
  h9 : TO ≠ i2
  h10 : i1 ≠ i2
  ha : ∀ c, a.u = some c → c ≠ z ∧ c ≠ TO ∧ c ≠ i1 ∧ c ≠ i2
  hb : ∀ c, b.u = some c → c ≠ z ∧ c ≠ TO ∧ c ≠ i1 ∧ c ≠ i2
theorem ZAp.sep {z TI TO i1 i2 : Addr} {a b : Sd} (Z : ZAp z TI TO i1 i2 a b) {fp1 fp2 : List Addr} (m1 : i1 ∈ fp1) (m2 : i2 ∈ fp2) (k1 : ∀ c ∈ fp1, c = i1 ∨ a.u = some c) (k2 : ∀ c ∈ fp2, c = i2 ∨ b.u = some c) : ZipSep2 z TI TO i1 i2 fp1 fp2 where
  TIz := Z.h1
  TOz := Z.h2
  TITO := Z.h3
  TIi1 := Z.h4
  mem1 := m1
  zf1 := fun h => (k1 _ h).elim Z.h6 fun e => (Z.ha _ e).1 rfl
  Tf1 := fun h => (k1 _ h).elim Z.h8 fun e => (Z.ha _ e).2.1 rfl
  TIi2 := Z.h5
  mem2 := m2
  zf2 := fun h => (k2 _ h).elim Z.h7 fun e => (Z.hb _ e).1 rfl
  Tf2 := fun h => (k2 _ h).elim Z.h9 fun e => (Z.hb _ e).2.1 rfl
  sep1_2 := fun h => (k2 _ h).elim Z.h10 fun e => (Z.hb _ e).2.2.1 rfl
  sep2_1 := fun h => (k1 _ h).elim (fun e => Z.h10 e.symm) fun e => (Z.ha _ e).2.2.2 rfl
def ItS (K : PySem.W.Frag) (a b : Sd) : It :=
  ⟨fun i H => ∃ (xs ys : List V) (x y : V), a.sq K H xs ∧ b.sq K H ys ∧ xs[i]? = some x ∧ ys[i]? = some y,
    fun i H v H' => ∃ T o x y, v = .ref T ∧ H T = none ∧ PlO o ∧ H' = upd H T (.frz o (.tup [x, y])) ∧ (∀ xs, a.sq K H xs → xs[i]? = some x) ∧ ∀ ys, b.sq K H ys → ys[i]? = some y,
    fun i H => ∃ xs ys : List V, a.sq K H xs ∧ b.sq K H ys ∧ i ≤ xs.length ∧ i ≤ ys.length ∧ (i = xs.length ∨ i = ys.length)⟩
theorem Sd.st_keep {a : Sd} {it : Addr} {i : Nat} {h h' : Heap} (e : a.st it i h) (k : ∀ o, h.get? it = some o → h'.get? it = some o) : a.st it i h' := by
  cases a with
  | l a => exact Heap.IsListIter.at e k
  | t a => exact Heap.IsTupleIter.at e k
  | s z =>
    obtain ⟨t, o, ho, r⟩ := e
    exact ⟨t, o, k o ho, r⟩
theorem Sd.st_obj {a : Sd} {it : Addr} {i : Nat} {h : Heap} (e : a.st it i h) : ∃ o, h.get? it = some o ∧ ∀ v, o.data ≠ .cell v := by
  cases a with
  | l a => obtain ⟨o, e1, _, d1⟩ := e; exact ⟨o, e1, fun v q => by rw [d1] at q; cases q⟩
  | t a => obtain ⟨o, e1, _, d1⟩ := e; exact ⟨o, e1, fun v q => by rw [d1] at q; cases q⟩
  | s z => obtain ⟨t, o, e1, _, d1⟩ := e; exact ⟨o, e1, fun v q => by rw [d1] at q; cases q⟩
theorem vals_same : ∀ {xs ys : List V} {us : List Value}, Vals xs us → Vals ys us → xs = ys
  | [], _, _, r, q => by cases r; cases q; rfl
  | x :: xs, _, _, r, q => by
    cases r with
    | cons a b => cases q with
      | cons c d => rw [a.inj c, vals_same b d]
theorem Sd.same {X : Cx} {pins : List (Addr × Obj)} {σ : L2.St} {H : Hp} {s : Shared} {a : Sd} {xs ys : List V} (I : Inv X pins σ H s) (h : a.sq X.K H xs) (g : a.sq X.K H ys) : xs = ys := by
  cases a with
  | l a =>
    obtain ⟨i1, r1, ⟨n1, o1, e1, c1, d1, f1⟩, _⟩ := I.list h
    obtain ⟨i2, r2, ⟨n2, o2, e2, c2, d2, f2⟩, _⟩ := I.list g
    rw [e1] at e2
    obtain rfl := Option.some.inj e2
    rw [f1] at f2
    have : i1.toArray = i2.toArray := by injection f2
    have : i1 = i2 := by simpa using this
    subst this
    exact vals_same r1 r2
  | t a =>
    obtain ⟨i1, r1, ⟨o1, e1, c1, n1, d1⟩, _⟩ := I.tuple h
    obtain ⟨i2, r2, ⟨o2, e2, c2, n2, d2⟩, _⟩ := I.tuple g
    rw [e1] at e2
    obtain rfl := Option.some.inj e2
    rw [d1] at d2
    have : i1.toArray = i2.toArray := by injection d2
    have : i1 = i2 := by simpa using this
    subst this
    exact vals_same r1 r2
  | s z =>
    rw [show xs = _ from h, show ys = _ from g]
theorem turn_S {P : Program} {w : World} {K : PySem.W.Frag} {elts : List Expr} {kk : Nat} {tpos : Pos} {a b : Sd} {z TI TO i1 i2 : Addr} (Z : ZAp z TI TO i1 i2 a b) :
    Turn P w K (.Tuple elts kk tpos) (ItS K a b) [z, TI, TO, i1, i2] z (fun i h => IsZip h z TI TO .none ∧ IsTupOf2 h TI (.ref i1) (.ref i2) ∧ (∃ x y, IsTupOf2 h TO x y) ∧ a.st i1 i h ∧ b.st i2 i h) where
  mem := by simp
  obj := fun i h ⟨hz, hT, ⟨x, y, hO⟩, e1, e2⟩ c hc => by
    have hc' : c = z ∨ c = TI ∨ c = TO ∨ c = i1 ∨ c = i2 := by simpa using hc
    rcases hc' with q | q | q | q | q
    · subst q; exact ⟨_, hz, fun v q => nomatch q⟩
    · subst q; exact ⟨_, hT, fun v q => nomatch q⟩
    · subst q; exact ⟨_, hO, fun v q => nomatch q⟩
    · rw [q]; exact Sd.st_obj e1
    · rw [q]; exact Sd.st_obj e2
  keep := fun i h h' ⟨hz, hT, ⟨x, y, hO⟩, e1, e2⟩ k => ⟨k z (by simp) _ hz, k TI (by simp) _ hT, ⟨x, y, k TO (by simp) _ hO⟩, Sd.st_keep e1 fun o q => k i1 (by simp) o q, Sd.st_keep e2 fun o q => k i2 (by simp) o q⟩
  item := by
    intro X hP hw hK hc i pins s σ H E I hf st hg
    subst hP hw hK
    have st0 := st
    obtain ⟨hz, hT, ⟨x0, y0, hO⟩, e1, e2⟩ := st
    obtain ⟨xs, ys, x, y, q1, q2, hx, hy⟩ := hg
    have hh : X.A.in1.handled = none := I.ok.hd hc
    obtain ⟨fp1, P1, S1, D1, m1, k1, s1, t1, v1⟩ := Sd.draw I hh q1 (fun q => (Z.ha _ q).2.2.1 rfl) e1
    obtain ⟨fp2, P2, S2, D2, m2, k2, s2, t2, v2⟩ := Sd.draw I hh q2 (fun q => (Z.hb _ q).2.2.2 rfl) e2
    have l1 : i < xs.length := (List.getElem?_eq_some_iff.mp hx).1
    have l2 : i < ys.length := (List.getElem?_eq_some_iff.mp hy).1
    have zl : z < s.heap.objs.size := Heap.lt_size hz
    refine wpAny_pyNext_zipD2_item (Z.sep m1 m2 k1 k2) D1 D2 hz hT hO s1 s2 l1 l2 fun u1 u2 h' tk p1 p2 z' O' s1' s2' hN hsz hk => ?_
    obtain ⟨x', ex, rx⟩ := v1 _ _ p1
    obtain ⟨y', ey, ry⟩ := v2 _ _ p2
    have e1 : x' = x := by rw [hx] at ex; exact (Option.some.inj ex).symm
    have e2 : y' = y := by rw [hy] at ey; exact (Option.some.inj ey).symm
    subst e1 e2
    refine ⟨_, rfl, wpAny_letOwnedTupleGo_zip (s := { s with heap := h', toks := tk }) z' fun h'' z'' sb => ?_⟩
    have g2 : h''.get? s.heap.objs.size = some { cls := .type "tuple", data := .seq #[u1, u2] } := (sb.2 _ (Nat.ne_of_gt zl)).trans hN
    let oN : Obj := { cls := .type "tuple", data := .seq #[u1, u2] }
    have okN : ObjOk X.prog X.w (upd H s.heap.objs.size (.frz oN (.tup [x', y']))) h'' s.heap.objs.size (.frz oN (.tup [x', y'])) :=
      ⟨g2, by show 2 ≤ sizeLine; decide, [u1, u2], .cons rx (.cons ry .nil), ⟨_, g2, rfl, _, rfl⟩⟩
    have J1 : Inv X pins σ (upd H s.heap.objs.size (.frz oN (.tup [x', y']))) { s with heap := h'', toks := tk } :=
      I.turnedNew (t' := tk) (ch := [z, TI, TO, i1, i2]) (fun c o hm q => (sb.2 c (fun q' => hm (by simp [q']))).trans (hk c o (fun q' => hm (by simp [q'])) (fun q' => hm (by simp [q'])) (fun q' => hm (by simp [q'])) (fun q' => hm (by simp [q'])) q)) hf (Nat.le_refl _) okN
    refine ⟨.ref s.heap.objs.size, _, J1, rfl, ⟨_, oN, x', y', rfl, I.hok.fresh (Nat.le_refl _), ⟨rfl, rfl⟩, rfl, fun us qu => by rw [Sd.same I qu q1]; exact hx, fun us qu => by rw [Sd.same I qu q2]; exact hy⟩, ⟨z'', ?_, ⟨u1, u2, ?_⟩, ?_, ?_⟩, fun c hm => ?_⟩
    · exact (sb.2 _ Z.h1).trans (hk _ _ Z.h1 Z.h3 Z.h4 Z.h5 hT)
    · exact (sb.2 _ Z.h2).trans O'
    · exact Sd.st_keep (t1 _ _ s1') fun o q => (sb.2 _ Z.h6.symm).trans q
    · exact Sd.st_keep (t2 _ _ s2') fun o q => (sb.2 _ Z.h7.symm).trans q
    · have lt : c < s.heap.objs.size := by
        have hm' : c = z ∨ c = TI ∨ c = TO ∨ c = i1 ∨ c = i2 := by simpa using hm
        obtain ⟨_, _, _, w1, w2⟩ := id st0
        rcases hm' with q | q | q | q | q
        · subst q; exact zl
        · subst q; exact Heap.lt_size hT
        · subst q; exact Heap.lt_size hO
        · subst q; obtain ⟨_, e, _⟩ := Sd.st_obj w1; exact Heap.lt_size e
        · subst q; obtain ⟨_, e, _⟩ := Sd.st_obj w2; exact Heap.lt_size e
      rw [upd_ne (Nat.ne_of_lt lt)]
      exact (hf c hm).1
  done := by
    intro X hP hw hK hc i pins s σ H E I hf st hg
    subst hP hw hK
    obtain ⟨hz, hT, ⟨x0, y0, hO⟩, e1, e2⟩ := st
    obtain ⟨xs, ys, q1, q2, g1, g2, g3⟩ := hg
    have hh : X.A.in1.handled = none := I.ok.hd hc
    obtain ⟨fp1, P1, S1, D1, m1, k1, s1, t1, v1⟩ := Sd.draw I hh q1 (fun q => (Z.ha _ q).2.2.1 rfl) e1
    obtain ⟨fp2, P2, S2, D2, m2, k2, s2, t2, v2⟩ := Sd.draw I hh q2 (fun q => (Z.hb _ q).2.2.2 rfl) e2
    refine wpAny_pyNext_zipD2_end (Z.sep m1 m2 k1 k2) D1 D2 hz hT hO s1 s2 g1 g2 g3 fun h' tk hk => ⟨rfl, I.turnedL (t' := tk) (ch := [z, TI, TO, i1, i2]) (fun c o hm q =>
      hk c o (fun q' => hm (by simp [q'])) (fun q' => hm (by simp [q'])) (fun q' => hm (by simp [q'])) (fun q' => hm (by simp [q'])) q) hf⟩
  self := fun A i s Q E st h => wpAny_pyIter_zip st.1 h
end DL
namespace DL
open PySem PySem.Spec L2
open PyProof.Rows (Call_)
def SdV : Sd → V → Prop
  | .l a, x => x = .ref a
  | .t a, x => x = .ref a
  | .s z, x => x = .str z
section
variable {X : Cx} {pins : List (Addr × Obj)} {σ : L2.St} {H : Hp} {s : Shared} {xs : List V} {sd : Sd}
theorem Sd.begins (I : Inv X pins σ H s) (q : sd.sq X.K H xs) {x : V} {v : Value} (e : SdV sd x) (r : RelV x v) :
    ∃ (o : Obj) (U : Heap → Prop), Begins v o U ∧ U s.heap ∧ (∀ it h', h'.get? it = some o → sd.st it 0 h') ∧ ∀ c, sd.u = some c → c < s.heap.objs.size := by
  cases sd with
  | l a =>
    have e' : x = .ref a := e
    subst e'
    cases r
    obtain ⟨its, rv, p, _⟩ := I.list q
    exact ⟨_, _, begins_list a its.toArray, p.isList, fun it h' g => ⟨_, g, rfl, rfl⟩, fun c hc => by cases hc; exact p.lt⟩
  | t a =>
    have e' : x = .ref a := e
    subst e'
    cases r
    obtain ⟨its, rv, p, _⟩ := I.tuple q
    exact ⟨_, _, begins_tuple a its.toArray, p, fun it h' g => ⟨_, g, rfl, rfl⟩, fun c hc => by cases hc; obtain ⟨_, g, _⟩ := p; exact Heap.lt_size g⟩
  | s z =>
    have e' : x = .str z := e
    subst e'
    obtain ⟨t, rfl⟩ := r
    exact ⟨_, _, begins_text z t, trivial, fun it h' g => ⟨t, _, g, rfl, rfl⟩, fun c hc => nomatch hc⟩
theorem zap_new {n : Nat} {a b : Sd} (ha : ∀ c, a.u = some c → c < n) (hb : ∀ c, b.u = some c → c < n) : ZAp (n + 4) (n + 2) (n + 3) n (n + 1) a b where
  h1 := show (n + 2 : Nat) ≠ n + 4 by omega
  h2 := show (n + 3 : Nat) ≠ n + 4 by omega
  h3 := show (n + 2 : Nat) ≠ n + 3 by omega
  h4 := show (n + 2 : Nat) ≠ n by omega
  h5 := show (n + 2 : Nat) ≠ n + 1 by omega
  h6 := show (n + 4 : Nat) ≠ n by omega
  h7 := show (n + 4 : Nat) ≠ n + 1 by omega
  h8 := show (n + 3 : Nat) ≠ n by omega
  h9 := show (n + 3 : Nat) ≠ n + 1 by omega
  h10 := show (n : Nat) ≠ n + 1 by omega
  ha := fun c e => by
    have k : (show Nat from c) < n := ha c e
    exact ⟨Nat.ne_of_lt (Nat.lt_add_right 4 k), Nat.ne_of_lt (Nat.lt_add_right 3 k), Nat.ne_of_lt k, Nat.ne_of_lt (Nat.lt_add_right 1 k)⟩
  hb := fun c e => by
    have k : (show Nat from c) < n := hb c e
    exact ⟨Nat.ne_of_lt (Nat.lt_add_right 4 k), Nat.ne_of_lt (Nat.lt_add_right 3 k), Nat.ne_of_lt k, Nat.ne_of_lt (Nat.lt_add_right 1 k)⟩
def iZipS (K : PySem.W.Frag) (ta : TA) : TI := fun σ H R => ta σ H fun vs H1 => ∃ x y a b xs ys, vs = [x, y] ∧ SdV a x ∧ SdV b y ∧ a.sq K H1 xs ∧ b.sq K H1 ys ∧ R (ItS K a b) H1
theorem pi_zipS {e e2 : Expr} {ta : TA} {p pos tpos : Pos} {elts : List Expr} {kk : Nat} (hg : Gl X "zip") (hm : X.mg "zip" = none) (ha : PA X [e, e2] ta)
    (hst : starEach [e, e2] X.env = (false, eval e X.env) :: starEach [e2] X.env := by rfl) (hpl : (backTo pos (starEach [e2] X.env)).any (·.1) = false := by rfl) :
    PI X (.Tuple elts kk tpos) (.Call (.Name "zip" p) [e, e2] [] pos) (iZipS X.K ta) := by
  refine ⟨fun pins s σ H R I hyp => ?_⟩
  refine Call_ (ld_blt I hg hm PyProof.Rows.boot_zip (PyProof.Rows.callWith_type1 (thn (ha.run pos pins s σ H _ I hyp) fun us s1 ⟨vs, H1, I1, r1, q1⟩ => ?_) hst hpl))
  obtain ⟨x, y, a, b, xs, ys, ev, ea, eb, qa, qb, q⟩ := q1
  subst ev
  obtain ⟨u1, u2, rfl, rx, ry⟩ := vals2 r1
  obtain ⟨o1, U1, B1, w1, st1, lt1⟩ := Sd.begins I1 qa ea rx
  obtain ⟨o2, U2, B2, w2, st2, lt2⟩ := Sd.begins I1 qb eb ry
  refine zip_begins2 B1 B2 w1 w2 fun h' hz hT hO g1 g2 hsz hk => wpAny_pyIter_zip hz ?_
  have J : Inv X pins σ H1 { s1 with heap := h' } := I1.kept (t' := s1.toks) hk
  refine ⟨s1.heap.objs.size + 4, [s1.heap.objs.size + 4, s1.heap.objs.size + 2, s1.heap.objs.size + 3, s1.heap.objs.size, s1.heap.objs.size + 1], _, _, H1, rfl, J, turn_S (zap_new lt1 lt2), ⟨hz, hT, ⟨_, _, hO⟩, st1 _ _ g1, st2 _ _ g2⟩, fun c hc => ?_, q⟩
  have le : s1.heap.objs.size ≤ c := by
    have hc' : c = s1.heap.objs.size + 4 ∨ c = s1.heap.objs.size + 2 ∨ c = s1.heap.objs.size + 3 ∨ c = s1.heap.objs.size ∨ c = s1.heap.objs.size + 1 := by simpa using hc
    rcases hc' with w | w | w | w | w <;> rw [w] <;> first | exact Nat.le_refl _ | exact Nat.le_add_right _ _
  exact I1.fpOk le (I1.hok.fresh le)
end
end DL
namespace DL
open PySem PySem.Spec L2

def SeqD (h : DH) (d : D) (xs : List D) : Prop := match d with
  | .tup ys => xs = ys
  | .cl ys => xs = ys
  | .ref a => h a = some (.lst xs)
  | .str z => xs = chars z
  | _ => False
theorem chars_reps {K : Gx} {H : Hp} (z : Str) : Reps K H (z.cps.toList.map fun c => V.str ⟨#[c]⟩) (chars z) := by
  unfold chars
  induction z.cps.toList with
  | nil => exact .nil
  | cons c l ih => exact .cons (.str _) ih
theorem SeqD.side {K : Gx} {H : Hp} {h : DH} {x : V} {d : D} {xs : List D} (hr : HRel K H h) (r : Rep K H x d) (i : SeqD h d xs) :
    ∃ sd, SdV sd x ∧ (∃ vs, sd.sq K.K H vs) ∧ ∀ H' h', Ext K H H' → HRel K H' h' → SeqD h' d xs → ∃ vs, sd.sq K.K H' vs ∧ Reps K H' vs xs := by
  cases d with
  | tup ys =>
    have i' : xs = ys := i
    subst i'
    cases r with
    | @tup a vs _ s rr => exact ⟨.t a, rfl, ⟨_, s.1⟩, fun H' h' e hr' _ => ⟨_, e.t _ _ s.1, rr.mono e⟩⟩
  | cl ys =>
    have i' : xs = ys := i
    subst i'
    cases r with
    | @cl a vs _ s rr => exact ⟨.l a, rfl, ⟨_, s.list⟩, fun H' h' e hr' _ => ⟨_, (e.f _ _ s).list, rr.mono e⟩⟩
  | ref a =>
    obtain ⟨vs, hv, rr⟩ := hr a _ i
    cases r
    exact ⟨.l a, rfl, ⟨_, SqL.of hv⟩, fun H' h' e hr' i' => by
      obtain ⟨vs, hv, rr⟩ := hr' a _ i'
      exact ⟨_, SqL.of hv, rr⟩⟩
  | str z =>
    have i' : xs = chars z := i
    subst i'
    rw [rep_str r]
    exact ⟨.s z, rfl, ⟨_, rfl⟩, fun H' h' e hr' _ => ⟨_, rfl, chars_reps z⟩⟩
  | _ => exact (show False from i).elim
def zipD (xs ys : List D) : List D := (xs.zip ys).map fun p => .tup [p.1, p.2]
theorem zipD_get {xs ys : List D} {i : Nat} {x y : D} (hx : xs[i]? = some x) (hy : ys[i]? = some y) : (zipD xs ys)[i]? = some (.tup [x, y]) := by
  unfold zipD
  rw [List.getElem?_map, (List.getElem?_zip_eq_some (z := (x, y))).mpr ⟨hx, hy⟩]; rfl
theorem zipD_len {xs ys : List D} : (zipD xs ys).length = min xs.length ys.length := by
  unfold zipD
  rw [List.length_map, List.length_zip]
def iZip : List D → W Src
  | [d, e] => ⟨fun h Q _ => ∃ xs ys, SeqD h d xs ∧ SeqD h e ys ∧ Q ⟨zipD xs ys, fun h => SeqD h d xs ∧ SeqD h e ys⟩ h, fun g ⟨xs, ys, a, b, k⟩ => ⟨xs, ys, a, b, g _ _ k⟩⟩
  | _ => W.fail
section
variable {X : Cx} {EK : EKt} {r : Lo} {tg a b c : Expr} {ma mb mc : W D} {pos p tpos : Pos} {elts : List Expr} {kk : Nat}
theorem di_zip (hg : Gl X "zip") (hm : X.mg "zip" = none) (ha : DA X EK r [a, b] [ma, mb])
    (hst : starEach [a, b] X.env = (false, eval a X.env) :: starEach [b] X.env := by rfl) (hpl : (backTo pos (starEach [b] X.env)).any (·.1) = false := by rfl) :
    DI X EK r (.Tuple elts kk tpos) (.Call (.Name "zip" p) [a, b] [] pos) ((eArgs [ma, mb]).bind iZip) :=
  ⟨pi_weak (pi_zipS hg hm ha.pa hst hpl) fun σ H R x => glueIA x fun ds h' vs H1 e hr rp l hd run => by
    match ds, hd, rp, run with
    | [d1, d2], _, rp, ⟨xs, ys, i1, i2, run⟩ =>
      obtain ⟨u, w, rfl, r1, r2⟩ := reps2 rp
      obtain ⟨s1, v1, ⟨ws1, q1⟩, k1⟩ := i1.side hr r1
      obtain ⟨s2, v2, ⟨ws2, q2⟩, k2⟩ := i2.side hr r2
      refine ⟨u, w, s1, s2, ws1, ws2, rfl, v1, v2, q1, q2, run _ H1 Ext.refl hr ⟨fun i H h e hr ck hi => ?_, fun i H h x H'' e hr ck hi hy => ?_, fun i H h e hr ck hi => ?_⟩⟩
      · obtain ⟨us, z1, rr1⟩ := k1 H h e hr ck.1
        obtain ⟨ts, z2, rr2⟩ := k2 H h e hr ck.2
        have hi' : i < min xs.length ys.length := by rw [← zipD_len]; exact hi
        obtain ⟨y1, g1, _⟩ := rr1.get (List.getElem?_eq_getElem (by omega : i < xs.length))
        obtain ⟨y2, g2, _⟩ := rr2.get (List.getElem?_eq_getElem (by omega : i < ys.length))
        exact ⟨us, ts, y1, y2, z1, z2, g1, g2⟩
      · obtain ⟨us, z1, rr1⟩ := k1 H h e hr ck.1
        obtain ⟨ts, z2, rr2⟩ := k2 H h e hr ck.2
        obtain ⟨T, oT, x1, x2, rfl, hT, pT, rfl, g1, g2⟩ := hy
        obtain ⟨d1', e1, rd1⟩ := rr1.getV (g1 us z1)
        obtain ⟨d2', e2, rd2⟩ := rr2.getV (g2 ts z2)
        exact ⟨Ext.laid hT, hr.under hT, _, zipD_get e1 e2, .tup (SqP.of pT) (.cons (rd1.mono (Ext.laid hT)) (.cons (rd2.mono (Ext.laid hT)) .nil))⟩
      · obtain ⟨us, z1, rr1⟩ := k1 H h e hr ck.1
        obtain ⟨ts, z2, rr2⟩ := k2 H h e hr ck.2
        have hi' : i = min xs.length ys.length := by rw [← zipD_len]; exact hi
        have l1 := rr1.length
        have l2 := rr2.length
        exact ⟨us, ts, z1, z2, by omega, by omega, by omega⟩⟩
end

theorem DH.upd_del {h : DH} {p : Addr} {o : O} (n : h p = none) : (h.upd p o).del p = h := by
  funext b
  unfold DH.del DH.upd
  by_cases q : b = p
  · rw [if_pos q, q, n]
  · rw [if_neg q, if_neg q]
def frzD (d : D) : W D := ⟨fun h Q _ => ∃ a, d = .ref a ∧ ((∃ xs, h a = some (.lst xs) ∧ Q (.cl xs) (h.del a)) ∨ ∃ kvs, h a = some (.dK kvs) ∧ Q (.dk (kvs.map (·.1)) (kvs.map (·.2))) (h.del a)),
  fun g ⟨a, e, q⟩ => ⟨a, e, q.imp (fun ⟨xs, x, k⟩ => ⟨xs, x, g _ _ k⟩) fun ⟨xs, x, k⟩ => ⟨xs, x, g _ _ k⟩⟩⟩
theorem Ext.frz {K : Gx} {H : Hp} {p : Addr} {o : Obj} {u : HO} (e : H p = some u) (n1 : ∀ xs, u ≠ .tup xs) (n2 : ∀ ob v, u ≠ .frz ob v) (n3 : ∀ q, u ≠ .tbl q := by intro q z; cases z) : Ext K H (L2.upd H p (.frz o u)) := Ext.wrote e n1 n2 n3
theorem HRel.frz {K : Gx} {H : Hp} {h : DH} {p : Addr} {o : HO} {u : HO} (r : HRel K H h) (e : H p = some u) (n1 : ∀ xs, u ≠ .tup xs) (n2 : ∀ ob v, u ≠ .frz ob v) (n3 : ∀ q, u ≠ .tbl q := by intro q z; cases z) : HRel K (L2.upd H p o) (h.del p) := fun a v q => by
  unfold DH.del at q
  by_cases z : a = p
  · rw [if_pos z] at q; cases q
  · rw [if_neg z] at q
    exact (r a v q).stay (Ext.wrote e n1 n2 n3) (upd_ne z)
section
variable {X : Cx} {EK : EKt} {r : Lo} {e : Expr} {m : W D} {pins : List (Addr × Obj)} {σ : L2.St} {H : Hp} {s : Shared}
theorem inv_frz {a : Addr} {u : HO} (I : Inv X pins σ H s) (ha : H a = some u) (mu : Mut (some u)) (hg : ∃ o, s.heap.get? a = some o) (nx : ∀ H', ObjOk X.prog X.w H s.heap a u → ObjOk X.prog X.w H' s.heap a u) : ∃ o, Inv X pins σ (L2.upd H a (.frz o u)) s := by
  obtain ⟨o, ho⟩ := hg
  exact ⟨o, I.write (e := a) (h' := s.heap) (t' := s.toks) (by rw [ha]; exact mu) (.inl rfl) (fun b v _ hv => hv) ⟨o, ho⟩ ⟨ho, nx _ (I.hok a u ha)⟩⟩
theorem frz_lst {a : Addr} {vs : List V} (I : Inv X pins σ H s) (ha : H a = some (.lst vs)) : ∃ o, Inv X pins σ (L2.upd H a (.frz o (.lst vs))) s :=
  inv_frz I ha trivial (by obtain ⟨_, its, n, _, g⟩ := I.hok a _ ha; exact ⟨_, g⟩) fun _ x => x
theorem frz_dK {a : Addr} {l : List (Key × V)} (I : Inv X pins σ H s) (ha : H a = some (.dK l)) : ∃ o, Inv X pins σ (L2.upd H a (.frz o (.dK l))) s :=
  inv_frz I ha trivial (by obtain ⟨_, _, vs, _, o, es, ep, g, _⟩ := I.hok a _ ha; exact ⟨_, g⟩) fun _ x => x
theorem frz_step {h : DH} {v : V} {d : D} {Q : D → DH → Prop} (I : Inv X pins σ H s) (hr : HRel X.gx H h) (rp : Rep X.gx H v d) {EK : EKt} (run : (frzD d).run h Q EK) :
    ∃ H' d' h', Inv X pins σ H' s ∧ Ext X.gx H H' ∧ HRel X.gx H' h' ∧ Rep X.gx H' v d' ∧ Q d' h' := by
  obtain ⟨a, rfl, ⟨xs, ha, q⟩ | ⟨kvs, ha, q⟩⟩ := run
  · obtain ⟨vs, hv, rr⟩ := hr a _ ha
    obtain ⟨o, I'⟩ := frz_lst I hv
    have ex : Ext X.gx H (L2.upd H a (.frz o (.lst vs))) := Ext.wrote hv (fun _ z => by cases z) fun _ _ z => by cases z
    rw [rep_ref rp]
    exact ⟨_, _, _, I', ex, hr.frz hv (fun _ z => by cases z) (fun _ _ z => by cases z), .cl (.inl ⟨o, upd_same⟩) (rr.mono ex), q⟩
  · obtain ⟨l, hv, pr⟩ := hr a _ ha
    obtain ⟨o, I'⟩ := frz_dK I hv
    have ex : Ext X.gx H (L2.upd H a (.frz o (.dK l))) := Ext.wrote hv (fun _ z => by cases z) fun _ _ z => by cases z
    rw [rep_ref rp]
    have hk : ∀ {l : List (Key × V)} {kvs : List (Key × D)}, Paired (fun (p : Key × V) (q : Key × D) => p.1 = q.1 ∧ Rep X.gx H p.2 q.2) l kvs → l.map (·.1) = kvs.map (·.1) ∧ Reps X.gx H (l.map (·.2)) (kvs.map (·.2)) := by
      intro l kvs pr
      induction pr with
      | nil => exact ⟨rfl, .nil⟩
      | cons x _ ih => exact ⟨by rw [List.map_cons, List.map_cons, ih.1, x.1], .cons x.2 ih.2⟩
    exact ⟨_, _, _, I', ex, hr.frz hv (fun _ z => by cases z) (fun _ _ z => by cases z), .dk upd_same (hk pr).1 ((hk pr).2.mono ex), q⟩
theorem de_conv {m' : W D} (he : DE X EK r e m) (f : ∀ h Q, m'.run h Q EK → m.run h Q EK) : DE X EK r e m' :=
  ⟨pe_weak he.pe fun σ H Q ⟨h, l, hr, run⟩ => ⟨h, l, hr, f _ _ run⟩⟩
variable {L C : Type} {Jn : C → Lo} {Jl : L → Lo} {sts : List Stmt}
end
end DL
namespace DL
open PySem PySem.Spec L2 PyProof.Rows

def keyD : D → Option Key
  | .int i => some (.inl i)
  | .str z => some (.inr z)
  | _ => none
def findK (kvs : List (Key × D)) (k : Key) : Option D := (kvs.find? fun p => decide (p.1 = k)).map (·.2)
def putD (kvs : List (Key × D)) (k : Key) (v : D) : List (Key × D) :=
  if (kvs.any fun p => decide (p.1 = k)) = true then kvs.map (fun p => if p.1 = k then (p.1, v) else p) else kvs ++ [(k, v)]
def mergeD (kvs more : List (Key × D)) : List (Key × D) := more.foldl (fun acc p => putD acc p.1 p.2) kvs
def DctI (h : DH) (d : D) (kvs : List (Key × D)) : Prop := match d with
  | .dk ks ds => kvs = ks.zip ds
  | .ref a => h a = some (.dK kvs)
  | _ => False
abbrev EntK (K : Gx) (H : Hp) (p : Key × V) (q : Key × D) : Prop := p.1 = q.1 ∧ Rep K H p.2 q.2
theorem zip_rel {K : Gx} {H : Hp} : ∀ {l : List (Key × V)} {ds : List D}, Reps K H (l.map (·.2)) ds → Paired (EntK K H) l ((l.map (·.1)).zip ds)
  | [], _, r => .nil
  | p :: l, _, r => by
    cases r with
    | cons a b => exact .cons ⟨rfl, a⟩ (zip_rel b)
theorem DctI.rep {K : Gx} {H : Hp} {h : DH} {y : V} {e : D} {kvs : List (Key × D)} (hr : HRel K H h) (ry : Rep K H y e) (i : DctI h e kvs) : ∃ p l, y = .ref p ∧ Rd H p (.dK l) ∧ Paired (EntK K H) l kvs := by
  cases e with
  | dk ks ds =>
    cases ry with
    | dk s q rr => subst q; have i' : kvs = _ := i; subst i'; exact ⟨_, _, rfl, .inr ⟨_, s⟩, zip_rel rr⟩
  | ref a =>
    obtain ⟨vs, hv, rr⟩ := hr a _ i
    cases ry
    exact ⟨a, vs, rfl, .inl hv, rr⟩
  | _ => exact (show False from i).elim
theorem keyD_V {K : Gx} {H : Hp} {y : V} {e : D} {k : Key} (r : Rep K H y e) (h : keyD e = some k) : y = kV k := by
  cases e with
  | int i => rw [rep_int r]; cases h; rfl
  | str z => rw [rep_str r]; cases h; rfl
  | _ => cases h
theorem find_none {K : Gx} {H : Hp} {k : Key} : ∀ {l : List (Key × V)} {kvs : List (Key × D)}, Paired (EntK K H) l kvs → findK kvs k = none → valV l k = none
  | _, _, .nil, _ => rfl
  | p :: l, q :: kvs, .cons a b, h => by
    unfold findK at h
    by_cases e : q.1 = k
    · simp [e] at h
    · rw [valV_neg (by rw [a.1]; exact e)]
      refine find_none b ?_
      unfold findK
      simpa [e] using h
theorem find_some {K : Gx} {H : Hp} {k : Key} {d : D} : ∀ {l : List (Key × V)} {kvs : List (Key × D)}, Paired (EntK K H) l kvs → findK kvs k = some d → ∃ v, valV l k = some v ∧ Rep K H v d
  | _, _, .nil, h => by cases h
  | p :: l, q :: kvs, .cons a b, h => by
    unfold findK at h
    by_cases e : q.1 = k
    · simp [e] at h
      exact ⟨p.2, valV_pos (by rw [a.1]; exact e), by rw [← h]; exact a.2⟩
    · rw [valV_neg (by rw [a.1]; exact e)]
      refine find_some b ?_
      unfold findK
      simpa [e] using h
theorem find_is {K : Gx} {H : Hp} {k : Key} {l : List (Key × V)} {kvs : List (Key × D)} (pr : Paired (EntK K H) l kvs) : (valV l k).isSome = (findK kvs k).isSome := by
  cases e : findK kvs k with
  | none => rw [find_none pr e]; rfl
  | some d => obtain ⟨v, h, _⟩ := find_some pr e; rw [h]; rfl
theorem paired_len {α β : Type} {F : α → β → Prop} : ∀ {l : List α} {m : List β}, Paired F l m → l.length = m.length
  | _, _, .nil => rfl
  | _, _, .cons _ t => by rw [List.length_cons, List.length_cons, paired_len t]
theorem any_rel {K : Gx} {H : Hp} {k : Key} : ∀ {l : List (Key × V)} {kvs : List (Key × D)}, Paired (EntK K H) l kvs → (l.any fun p => decide (p.1 = k)) = kvs.any fun p => decide (p.1 = k)
  | _, _, .nil => rfl
  | _, _, .cons a b => by rw [List.any_cons, List.any_cons, any_rel b, a.1]
theorem put_rel {K : Gx} {H : Hp} {k : Key} {v : V} {d : D} {l : List (Key × V)} {kvs : List (Key × D)} (pr : Paired (EntK K H) l kvs) (r : Rep K H v d) : Paired (EntK K H) (putK l k v) (putD kvs k d) := by
  unfold putK putD
  rw [any_rel pr]
  split
  · refine paired_map (fun a b ⟨h1, h2⟩ => ?_) pr
    rw [h1]
    split
    · exact ⟨rfl, r⟩
    · exact ⟨h1, h2⟩
  · exact paired_snoc ⟨rfl, r⟩ pr
theorem merge_rel {K : Gx} {H : Hp} : ∀ {more : List (Key × V)} {mored : List (Key × D)} {l : List (Key × V)} {kvs : List (Key × D)}, Paired (EntK K H) more mored → Paired (EntK K H) l kvs → Paired (EntK K H) (mergeK l more) (mergeD kvs mored)
  | _, _, _, _, .nil, q => q
  | p :: more, q :: mored, l, kvs, .cons a b, c => by
    show Paired (EntK K H) (mergeK (putK l p.1 p.2) more) (mergeD (putD kvs q.1 q.2) mored)
    rw [a.1]
    exact merge_rel b (put_rel c a.2)
theorem ent_mono {K : Gx} {H H' : Hp} {l : List (Key × V)} {kvs : List (Key × D)} (pr : Paired (EntK K H) l kvs) (e : Ext K H H') : Paired (EntK K H') l kvs := L2.Paired.mapP pr fun _ _ ⟨a, f⟩ => ⟨a, f.mono e⟩
theorem wrote_dK {K : Gx} {H : Hp} {h : DH} {a : Addr} {l l' : List (Key × V)} {kvs : List (Key × D)} (hr : HRel K H h) (hv : H a = some (.dK l)) (rr : Paired (EntK K H) l' kvs) : Ext K H (L2.upd H a (.dK l')) ∧ HRel K (L2.upd H a (.dK l')) (h.upd a (.dK kvs)) := by
  have e : Ext K H (L2.upd H a (.dK l')) := Ext.wrote hv (fun _ z => by cases z) fun _ _ z => by cases z
  exact ⟨e, hr.wrote hv (fun _ z => by cases z) (fun _ _ z => by cases z) ⟨l', upd_same, ent_mono rr e⟩⟩

section
variable {X : Cx} {EK : EKt} {K : Gx}
def rIxK : R2 := fun x y H Q => ∃ a v, x = .ref a ∧ DGet H a y (some v) ∧ Q v H
theorem ix_dK (hu : X.A.units + 64 < cLine) : IxR X rIxK := by
  intro value slice pins s σ H x y v u Q I rx ry hyp hs
  obtain ⟨a, z, rfl, g, q⟩ := hyp
  cases rx
  exact tail_any (dict_typeIs I g) PySem.F.slot_dict_getitem.lookup (d_getItem (by omega) I g ry fun w' s' I' rw' => ⟨z, H, I', rw', q⟩) hs
def opIxK (d e : D) : W D := ⟨fun h Q _ => ∃ kvs k v, DctI h d kvs ∧ keyD e = some k ∧ findK kvs k = some v ∧ Q v h, fun g ⟨a, b, c, d, e, f, k⟩ => ⟨a, b, c, d, e, f, g _ _ k⟩⟩
theorem s_ixK : Sim2 K EK rIxK opIxK := fun H h x y d e Q hr rx ry ⟨kvs, k, v, i, hk, hf, run⟩ => by
  obtain ⟨p, l, rfl, rd, pr⟩ := i.rep hr rx
  obtain ⟨w, hw, rw'⟩ := find_some pr hf
  exact ⟨p, w, rfl, .inl ⟨l, k, rd, keyD_V ry hk, hw.symm⟩, run w H Ext.refl hr rw'⟩
def rInK (neg : Bool) : R2 := fun x y H Q => ∃ a o, y = .ref a ∧ DGet H a x o ∧ Q (.bl (if neg then !o.isSome else o.isSome)) H
theorem o_inK (hu : X.A.units + 64 < cLine) : OpR X (compareOp .In) (rInK false) := by
  intro pins s σ H x y v u Q I rx ry hyp
  obtain ⟨a, o, rfl, g, q⟩ := hyp
  cases ry
  exact d_in (by omega) I g rx fun s' I' => ⟨.bl o.isSome, H, I', rfl, q⟩
theorem o_ninK (hu : X.A.units + 64 < cLine) : OpR X (compareOp .NotIn) (rInK true) := by
  intro pins s σ H x y v u Q I rx ry hyp
  obtain ⟨a, o, rfl, g, q⟩ := hyp
  cases ry
  exact d_notIn (by omega) I g rx fun s' I' => ⟨.bl (!o.isSome), H, I', rfl, q⟩
def opInK (x y : D) : W Bool := ⟨fun h Q _ => ∃ kvs k, DctI h y kvs ∧ keyD x = some k ∧ Q (findK kvs k).isSome h, fun g ⟨a, b, c, d, k⟩ => ⟨a, b, c, d, g _ _ k⟩⟩
def opNinK (x y : D) : W Bool := ⟨fun h Q _ => ∃ kvs k, DctI h y kvs ∧ keyD x = some k ∧ Q (!(findK kvs k).isSome) h, fun g ⟨a, b, c, d, k⟩ => ⟨a, b, c, d, g _ _ k⟩⟩
theorem s_inK : SimC K EK (rInK false) opInK := fun H h x y d e Q hr rx ry ⟨kvs, k, i, hk, run⟩ => by
  obtain ⟨p, l, rfl, rd, pr⟩ := i.rep hr ry
  exact ⟨p, valV l k, rfl, .inl ⟨l, k, rd, keyD_V rx hk, rfl⟩, by rw [if_neg Bool.false_ne_true, find_is pr]; exact run H Ext.refl hr⟩
theorem s_ninK : SimC K EK (rInK true) opNinK := fun H h x y d e Q hr rx ry ⟨kvs, k, i, hk, run⟩ => by
  obtain ⟨p, l, rfl, rd, pr⟩ := i.rep hr ry
  exact ⟨p, valV l k, rfl, .inl ⟨l, k, rd, keyD_V rx hk, rfl⟩, by rw [if_pos rfl, find_is pr]; exact run H Ext.refl hr⟩
def rSetK : TSet := fun x y z H Q => ∃ a H', x = .ref a ∧ DPut H a y z H' ∧ Q H'
theorem set_K (hu : X.A.units + 64 < cLine) : PSet X rSetK := by
  intro pins s σ H o i v ov iv u Q I ro ri rv hyp
  obtain ⟨a, H', rfl, g, q⟩ := hyp
  cases ro
  exact d_setItem (by omega) I g ri rv fun s' I' => ⟨H', I', q⟩
def stK : D → D → D → W Unit
  | .ref a, e, v => ⟨fun h Q _ => ∃ kvs k, h a = some (.dK kvs) ∧ keyD e = some k ∧ kvs.length < sizeLine ∧ Q () (h.upd a (.dK (putD kvs k v))), fun g ⟨a, b, c, d, e, k⟩ => ⟨a, b, c, d, e, g _ _ k⟩⟩
  | _, _, _ => W.fail
theorem s_setK : SimS K EK rSetK stK := fun H h x y z d e f Q hr rx ry rz run => by
  unfold stK at run
  split at run
  · obtain ⟨kvs, k, ha, hk, hl, run⟩ := run
    obtain ⟨l, hv, pr⟩ := hr _ _ ha
    obtain ⟨ex, hr'⟩ := wrote_dK hr hv (put_rel (k := k) pr rz)
    exact ⟨_, _, rep_ref rx, .inl ⟨l, k, hv, keyD_V ry hk, by rw [paired_len pr]; exact hl, rfl⟩, run _ ex hr'⟩
  · exact run.elim
def rLenK : List V → Hp → VK → Prop := fun xs H Q => ∃ a l, xs = [.ref a] ∧ Rd H a (.dK l) ∧ Q (.int l.length) H
theorem c_lenK : CallR X (.builtin "len") rLenK := by
  intro pins s σ H xs us Q I r hyp
  obtain ⟨a, l, rfl, rd, q⟩ := hyp
  obtain ⟨u, rfl, ru⟩ := vals1 r
  cases ru
  exact d_len I rd fun t s' I' => ⟨.int l.length, H, I', ⟨t, rfl⟩, q⟩
def bLenK : List D → W D
  | [d] => ⟨fun h Q _ => ∃ kvs, DctI h d kvs ∧ Q (.int kvs.length) h, fun g ⟨xs, a, b⟩ => ⟨xs, a, g _ _ b⟩⟩
  | _ => W.fail
theorem s_lenK : SimL K EK rLenK bLenK := fun H h xs ds Q hr rp run => by
  match ds, rp, run with
  | [d], rp, ⟨kvs, i, run⟩ =>
    obtain ⟨v, rfl, r1⟩ := reps1 rp
    obtain ⟨p, l, rfl, rd, pr⟩ := i.rep hr r1
    exact ⟨p, l, rfl, rd, by rw [paired_len pr]; exact run _ H Ext.refl hr (.int _)⟩
@[reducible] def isDK (d : D) (h : DH) : Prop := ∃ kvs, DctI h d kvs
theorem ty_dict : TyP X "dict" (fun x H => ∃ p, x = .ref p ∧ IsD H p) := fun pins s σ H x v I r hyp => by
  obtain ⟨p, rfl, d⟩ := hyp
  cases r
  obtain ⟨t1, t2, _⟩ := isD_at I d
  exact ⟨t1, t2⟩
theorem st_dict : SimTy K isDK (fun x H => ∃ p, x = .ref p ∧ IsD H p) := fun H h x d hr rp ⟨kvs, i⟩ => by
  obtain ⟨p, l, rfl, rd, _⟩ := i.rep hr rp
  exact ⟨p, rfl, .inl ⟨l, rd⟩⟩
def rGetK : V → List V → Hp → VK → Prop := fun x xs H Q => ∃ a y o, x = .ref a ∧ DGet H a y o ∧ ((xs = [y] ∧ Q (o.getD .non) H) ∨ ∃ z, xs = [y, z] ∧ Q (o.getD z) H)
theorem mt_getK (hu : X.A.units + 64 < cLine) : MtR X "dict.get" rGetK := by
  intro pins s σ H x xs v us Q I rx rxs hyp
  obtain ⟨a, y, o, rfl, g, q⟩ := hyp
  cases rx
  rcases q with ⟨rfl, q⟩ | ⟨z, rfl, q⟩
  · obtain ⟨u, rfl, ru⟩ := vals1 rxs
    exact d_get1 (by omega) I g ru fun w' s' I' rw' => ⟨_, H, I', rw', q⟩
  · obtain ⟨u, w, rfl, ru, rw⟩ := vals2 rxs
    exact d_get2 (by omega) I g ru rw fun w' s' I' rw' => ⟨_, H, I', rw', q⟩
def mGet : D → List D → W D
  | d, [e] => ⟨fun h Q _ => ∃ kvs k, DctI h d kvs ∧ keyD e = some k ∧ Q ((findK kvs k).getD .non) h, fun g ⟨a, b, c, d, k⟩ => ⟨a, b, c, d, g _ _ k⟩⟩
  | d, [e, f] => ⟨fun h Q _ => ∃ kvs k, DctI h d kvs ∧ keyD e = some k ∧ Q ((findK kvs k).getD f) h, fun g ⟨a, b, c, d, k⟩ => ⟨a, b, c, d, g _ _ k⟩⟩
  | _, _ => W.fail
theorem get_rel {H : Hp} {k : Key} {l : List (Key × V)} {kvs : List (Key × D)} {z : V} {f : D} (pr : Paired (EntK K H) l kvs) (rz : Rep K H z f) : Rep K H ((valV l k).getD z) ((findK kvs k).getD f) := by
  cases e : findK kvs k with
  | none => rw [find_none pr e]; exact rz
  | some d => obtain ⟨v, h1, h2⟩ := find_some pr e; rw [h1]; exact h2
theorem s_getK : SimM K EK rGetK mGet := fun H h x d xs ds Q hr rx rp run => by
  match ds, rp, run with
  | [e], rp, ⟨kvs, k, i, hk, run⟩ =>
    obtain ⟨y, rfl, ry⟩ := reps1 rp
    obtain ⟨p, l, rfl, rd, pr⟩ := i.rep hr rx
    exact ⟨p, y, valV l k, rfl, .inl ⟨l, k, rd, keyD_V ry hk, rfl⟩, .inl ⟨rfl, run _ H Ext.refl hr (get_rel pr .non)⟩⟩
  | [e, f], rp, ⟨kvs, k, i, hk, run⟩ =>
    obtain ⟨y, z, rfl, ry, rz⟩ := reps2 rp
    obtain ⟨p, l, rfl, rd, pr⟩ := i.rep hr rx
    exact ⟨p, y, valV l k, rfl, .inl ⟨l, k, rd, keyD_V ry hk, rfl⟩, .inr ⟨z, rfl, run _ H Ext.refl hr (get_rel pr rz)⟩⟩
def bSortK : List D → W D
  | [d] => ⟨fun h Q _ => ∃ (kvs : List (Key × D)) (ks : List Str), DctI h d kvs ∧ kvs.map (·.1) = ks.map Sum.inr ∧ ks.length < 64 ∧ ∀ (ys : List Str) (p : Addr), ys.Perm ks → sortedS ys = true → h p = none → Q (.ref p) (h.upd p (.lst (ys.map D.str))),
      fun g ⟨a, b, c, d, e, k⟩ => ⟨a, b, c, d, e, fun ys p h1 h2 h3 => g _ _ (k ys p h1 h2 h3)⟩⟩
  | _ => W.fail
theorem strs_reps {H : Hp} : ∀ (xs : List Str), Reps K H (xs.map V.str) (xs.map D.str)
  | [] => .nil
  | x :: xs => .cons (.str x) (strs_reps xs)
theorem ent_keys1 {H : Hp} : ∀ {l : List (Key × V)} {kvs : List (Key × D)}, Paired (EntK K H) l kvs → l.map (·.1) = kvs.map (·.1)
  | _, _, .nil => rfl
  | _, _, .cons a b => by rw [List.map_cons, List.map_cons, a.1, ent_keys1 b]
theorem s_sortK : SimL K EK (fun xs H Q => ∃ (a : Addr) (kvs : List (Key × V)) (ks : List Str), xs = [.ref a] ∧ Rd H a (.dK kvs) ∧ kvs.map (·.1) = ks.map Sum.inr ∧ ks.length < 64 ∧
    ∀ ys p, ys.Perm ks → sortedS ys = true → H p = none → Q (.ref p) (L2.upd H p (.lst (ys.map V.str)))) bSortK := fun H h xs ds Q hr rp run => by
  match ds, rp, run with
  | [d], rp, ⟨kvs, ks, i, hk, hl, run⟩ =>
    obtain ⟨v, rfl, r1⟩ := reps1 rp
    obtain ⟨p, l, rfl, rd, pr⟩ := i.rep hr r1
    exact ⟨p, l, ks, rfl, rd, by rw [ent_keys1 pr]; exact hk, hl, fun ys q h1 h2 hq => run ys q h1 h2 (hr.none hq) _ _ (Ext.laid hq) (hr.laid hq ⟨_, upd_same, strs_reps ys⟩) (.ref q)⟩
end

def ePairs : List (W D × W D) → W (List (Key × D))
  | [] => W.pure []
  | (mk, mv) :: ms => mk.bind fun k => mv.bind fun v => (ePairs ms).bind fun r => ⟨fun h Q _ => ∃ j, keyD k = some j ∧ Q ((j, v) :: r) h, fun g ⟨j, a, b⟩ => ⟨j, a, g _ _ b⟩⟩
def eDisp (ms : List (W D × W D)) : W D := (W.new (.dK [])).bind fun d => (ePairs ms).bind fun kvs => match d with
  | .ref p => ⟨fun h Q _ => h p = some (.dK []) ∧ kvs.length ≤ 15 ∧ Q (.ref p) (h.upd p (.dK (mergeD [] kvs))), fun g ⟨a, b, k⟩ => ⟨a, b, g _ _ k⟩⟩
  | _ => W.fail
structure DPs (X : Cx) (EK : EKt) (r : Lo) (pos : Pos) (keys : List (Option Expr)) (vals : List Expr) (ms : List (W D × W D)) : Prop where
  run : ∃ trs, PPs X pos keys vals trs ∧ ∀ σ H Q, (∃ h, LRel X.gx H r σ ∧ HRel X.gx H h ∧ (ePairs ms).run h (fun kvs h' => ∀ l H', Ext X.gx H H' → HRel X.gx H' h' → Paired (EntK X.gx H') l kvs → Q (l.map fun kv => (kV kv.1, kv.2)) H') EK) → tPairs trs σ H Q
section
variable {X : Cx} {EK : EKt} {r : Lo} {pos p2 : Pos} {k v : Expr} {keys : List (Option Expr)} {vals : List Expr} {mk mv : W D} {ms : List (W D × W D)}
theorem dps_nil : DPs X EK r pos [] [] [] := ⟨⟨[], pps_nil, fun σ H Q ⟨h, l, hr, run⟩ => run [] H Ext.refl hr .nil⟩⟩
theorem dps_cons (hk : DE X EK r k mk) (hv : DE X EK r v mv) (hr : DPs X EK r pos keys vals ms) : DPs X EK r pos (some k :: keys) (v :: vals) ((mk, mv) :: ms) := by
  obtain ⟨trs, pp, sim⟩ := hr.run
  refine ⟨⟨_, pps_cons hk.pe hv.pe pp, ?_⟩⟩
  rintro σ H Q ⟨h, l, hr, run⟩
  refine ⟨h, l, hr, mk.mono (fun dk h1 q1 x H1 e1 hr1 rx => ?_) run⟩
  refine ⟨h1, l.mono e1, hr1, mv.mono (fun dv h2 q2 y H2 e2 hr2 ry => ?_) q1⟩
  refine sim σ H2 _ ⟨h2, (l.mono e1).mono e2, hr2, (ePairs ms).mono (fun kvs h3 q3 lv H3 e3 hr3 pr => ?_) q2⟩
  obtain ⟨j, hj, q4⟩ := q3
  have := q4 ((j, y) :: lv) H3 (e1.trans (e2.trans e3)) hr3 (.cons ⟨rfl, ry.mono e3⟩ pr)
  rw [List.map_cons, ← keyD_V ((rx.mono e2).mono e3) hj] at this
  exact this
theorem de_disp (h : DPs X EK r pos keys vals ms) (hall : keys.all (·.isSome) = true := by rfl) (hl : keys.length = vals.length := by rfl) (h0 : keys ≠ [] := by simp) (h15 : keys.length ≤ 15 := by decide) : DE X EK r (.Dict keys vals pos) (eDisp ms) := by
  obtain ⟨trs, pp, sim⟩ := h.run
  refine ⟨pe_weak (pe_disp pp hall hl h0 h15) ?_⟩
  rintro σ H Q ⟨h, l, hr, run⟩
  intro p hp
  have run := run p (hr.none hp)
  refine sim σ _ _ ⟨_, l.mono (Ext.laid hp), hr.laid (d := .dK []) hp ⟨[], upd_same, .nil⟩, (ePairs ms).mono (fun kvs h1 q lv H1 e1 hr1 pr => ?_) run⟩
  obtain ⟨ha, hz, q⟩ := q
  obtain ⟨l0, hv, pr0⟩ := hr1 p _ ha
  cases pr0
  obtain ⟨e2, hr2⟩ := wrote_dK hr1 hv (merge_rel pr .nil)
  exact ⟨hv, lv, rfl, by rw [paired_len pr]; exact hz, q _ _ ((Ext.laid hp).trans (e1.trans e2)) hr2 (.ref p)⟩
theorem de_newD : DE X EK r (.Dict [] [] pos) (W.alt (W.new (.dK [])) (W.new (.dT []))) := by
  refine ⟨⟨fun pins s σ H Q I ⟨h, l, hr, run⟩ => ?_⟩⟩
  rcases run with run | run
  · exact pe_dnewK.run pins s σ H Q I fun p hp => run p (hr.none hp) _ _ (Ext.laid hp) (hr.laid (d := .dK []) hp ⟨[], upd_same, .nil⟩) (.ref p)
  · exact de_newT.pe.run pins s σ H Q I ⟨h, l, hr, run⟩
end

section
variable {X : Cx} {EK : EKt} {r : Lo} {src : W Src} {p : Pat} {is : List Nat} {mt : List D → W Bool} {mk mv : List D → W D} {own : List (Str × Nat)} {tg iter kx vx : Expr} {ifs : List Expr} {scope : Scope} {pos : Pos}
end
end DL
namespace DL
open PySem PySem.Spec L2 PyProof.Rows

theorem keyE_is {k : Key} {v : Value} {i : Int} (h : keyIs k v = true) : keyE (i, v) = k := by
  rcases keyIs_shape h with ⟨j, t, rfl, rfl⟩ | ⟨x, t, rfl, rfl⟩ <;> rfl
instance memK (k : Key) (xs : List Key) : Decidable (k ∈ xs) := decidable_of_iff ((xs.any fun j => decide (j = k)) = true) (by simp)
theorem key_scans {k : Key} {v : Value} (h : keyIs k v = true) : v.scannable = true := by
  rcases keyIs_shape h with ⟨j, t, rfl, rfl⟩ | ⟨x, t, rfl, rfl⟩ <;> rfl
section
variable {P : Program} {w : World} {h h' : Heap} {a : Addr} {xs : List Key}
theorem SetSR.keeps (R : SetSR w a xs h) (k : ∀ o, h.get? a = some o → h'.get? a = some o) : SetSR w a xs h' := by
  obtain ⟨o, es, ep, t, ho, r⟩ := R
  exact ⟨o, es, ep, t, k o ho, r⟩
theorem goods_elems {l : List (Int × Value)} (g : ∀ e ∈ l, GoodS w e) : ElemsOf (mixKind P w) l := fun e he => by
  obtain ⟨k, h1, h2⟩ := g e he
  exact ⟨⟨k, h1, h2⟩, key_scans h1⟩
theorem goods_is {e : Int × Value} (g : GoodS w e) (k : Key) : (mixKind P w).is k e.2 = true ↔ keyE e = k := by
  obtain ⟨k0, h1, _⟩ := g
  have e0 : keyE e = k0 := keyE_is (i := e.1) h1
  rw [e0]
  constructor
  · intro z
    exact (mixKind P w).inj e.2 k0 k h1 z
  · rintro rfl
    exact h1
theorem goods_mem {l : List (Int × Value)} (g : ∀ e ∈ l, GoodS w e) (k : Key) : k ∈ l.map keyE ↔ ∃ e ∈ l, (mixKind P w).is k e.2 = true := by
  rw [List.mem_map]
  exact ⟨fun ⟨e, he, q⟩ => ⟨e, he, (goods_is (g e he) k).2 q⟩, fun ⟨e, he, q⟩ => ⟨e, he, (goods_is (g e he) k).1 q⟩⟩
theorem SetSR.setOf (R : SetSR w a xs h) : h.SetOf (mixKind P w) a (fun k => decide (k ∈ xs)) xs.length := by
  obtain ⟨o, es, ep, t, ho, hx, hd, g, pm, nd, hb, hf, _⟩ := R
  exact ⟨o, es, ep, t, ho, hx, hd, goods_elems g, fun k => by rw [decide_eq_true_eq, ← pm.mem_iff]; exact goods_mem g k, hb, hf, by rw [← pm.length_eq, List.length_map, Array.length_toList]⟩
end
section
variable {P : Program} {w : World} {A : Around} {E : Value → Shared → Prop} {s : Shared} {a : Addr} {xs : List Key}
end
end DL
namespace DL
open PySem PySem.Spec L2 PyProof.Rows
section
variable {P : Program} {w : World} {A : Around} {E : Value → Shared → Prop} {s : Shared}
end
end DL
namespace DL
open PySem PySem.Spec L2 PyProof.Rows
section
variable {X : Cx} {EK : EKt} {K : Gx}
theorem setS_get {pins : List (Addr × Obj)} {σ : L2.St} {H : Hp} {s : Shared} {a : Addr} {xs : List Key} (I : Inv X pins σ H s) (ha : H a = some (SetSO X.w a xs)) : SetSR X.w a xs s.heap := (I.hok a _ ha).1
def rLenS (w : World) : List V → Hp → VK → Prop := fun xs H Q => ∃ a ks, xs = [.ref a] ∧ H a = some (SetSO w a ks) ∧ Q (.int (ks.length : Nat)) H
theorem c_lenS : CallR X (.builtin "len") (rLenS X.w) := by
  intro pins s σ H xs us Q I r hyp
  obtain ⟨a, ks, rfl, ha, q⟩ := hyp
  obtain ⟨u, rfl, ru⟩ := vals1 r
  cases ru
  obtain ⟨o, es, ep, t, ho, hex, hd, g, pm, nd, hb, hf, _⟩ := setS_get I ha
  have hn : es.size = ks.length := by rw [← pm.length_eq, List.length_map, Array.length_toList]
  have small : es.size < 2 ^ 16 := Nat.lt_trans hb (by decide)
  exact call_len_set ho hex hd hf (by omega) ⟨.int (ks.length : Nat), H, I.tok _, ⟨_, by rw [hn]⟩, q⟩
def bLenS : List D → W D
  | [.ref a] => ⟨fun h Q _ => ∃ ks, h a = some (.tset ks) ∧ Q (.int (ks.length : Nat)) h, fun g ⟨a, b, k⟩ => ⟨a, b, g _ _ k⟩⟩
  | _ => W.fail
theorem s_lenS : SimL K EK (rLenS K.w) bLenS := fun H h xs ds Q hr rp run => by
  unfold bLenS at run
  split at run
  · obtain ⟨ks, ha, run⟩ := run
    obtain ⟨v, rfl, r1⟩ := reps1 rp
    exact ⟨_, ks, by rw [rep_ref r1], hr _ _ ha, run _ H Ext.refl hr (.int _)⟩
  · exact run.elim
def rInS (w : World) (neg : Bool) : R2 := fun x y H Q => ∃ a k ks, x = kV k ∧ y = .ref a ∧ H a = some (SetSO w a ks) ∧ Q (.bl (if neg then !decide (k ∈ ks) else decide (k ∈ ks))) H
theorem o_inS : OpR X (compareOp .In) (rInS X.w false) := by
  intro pins s σ H x y v u Q I rx ry hyp
  obtain ⟨a, k, ks, rfl, rfl, ha, q⟩ := hyp
  cases ry
  exact wpAny_inSet_of (kV_is rx) (key_scan rx) ((setS_get I ha).setOf (P := X.prog)) ⟨.bl (decide (k ∈ ks)), H, I.tok _, rfl, q⟩
theorem o_ninS : OpR X (compareOp .NotIn) (rInS X.w true) := by
  intro pins s σ H x y v u Q I rx ry hyp
  obtain ⟨a, k, ks, rfl, rfl, ha, q⟩ := hyp
  cases ry
  exact wpAny_notInSet_of (kV_is rx) (key_scan rx) ((setS_get I ha).setOf (P := X.prog)) ⟨.bl (!decide (k ∈ ks)), H, I.tok _, rfl, q⟩
def opInS (x y : D) : W Bool := ⟨fun h Q _ => ∃ a k ks, y = .ref a ∧ keyD x = some k ∧ h a = some (.tset ks) ∧ Q (decide (k ∈ ks)) h, fun g ⟨a, b, c, d, e, f, k⟩ => ⟨a, b, c, d, e, f, g _ _ k⟩⟩
def opNinS (x y : D) : W Bool := ⟨fun h Q _ => ∃ a k ks, y = .ref a ∧ keyD x = some k ∧ h a = some (.tset ks) ∧ Q (!decide (k ∈ ks)) h, fun g ⟨a, b, c, d, e, f, k⟩ => ⟨a, b, c, d, e, f, g _ _ k⟩⟩
theorem s_inS : SimC K EK (rInS K.w false) opInS := fun H h x y d e Q hr rx ry ⟨a, k, ks, e1, hk, ha, run⟩ => by
  subst e1
  exact ⟨a, k, ks, keyD_V rx hk, rep_ref ry, hr _ _ ha, by rw [if_neg Bool.false_ne_true]; exact run H Ext.refl hr⟩
theorem s_ninS : SimC K EK (rInS K.w true) opNinS := fun H h x y d e Q hr rx ry ⟨a, k, ks, e1, hk, ha, run⟩ => by
  subst e1
  exact ⟨a, k, ks, keyD_V rx hk, rep_ref ry, hr _ _ ha, by rw [if_pos rfl]; exact run H Ext.refl hr⟩
def rSortS (w : World) : List V → Hp → VK → Prop := fun xs H Q => ∃ (a : Addr) (zs : List Str), xs = [.ref a] ∧ H a = some (SetSO w a (zs.map Sum.inr)) ∧ ∀ (ys : List Str) (p : Addr), ys.Perm zs → sortedS ys = true → H p = none → Q (.ref p) (L2.upd H p (.lst (ys.map V.str)))
theorem strs_of_keys {w : World} : ∀ {l : List (Int × Value)} {zs : List Str}, (∀ e ∈ l, GoodS w e) → l.map keyE = zs.map Sum.inr → StrsAre (l.map (·.2)) zs
  | [], zs, _, e => by
    cases zs with
    | nil => exact .nil
    | cons z zs => simp at e
  | e0 :: l, zs, g, e => by
    cases zs with
    | nil => simp at e
    | cons z zs =>
      rw [List.map_cons, List.map_cons] at e
      obtain ⟨k, h1, _⟩ := g e0 List.mem_cons_self
      have hk : keyE e0 = k := keyE_is (i := e0.1) h1
      have e1 : keyE e0 = Sum.inr z := (List.cons.inj e).1
      rw [hk] at e1
      subst e1
      obtain ⟨t, ev⟩ := Value.isStrOf_shape (x := z) (v := e0.2) h1
      rw [List.map_cons, ev]
      exact .cons z t (strs_of_keys (fun x hx => g x (List.mem_cons_of_mem _ hx)) (List.cons.inj e).2)
theorem perm_inr : ∀ {l : List Key} {zs : List Str}, l.Perm (zs.map Sum.inr) → ∃ ys : List Str, l = ys.map Sum.inr ∧ ys.Perm zs := by
  intro l zs pm
  have all : ∀ k ∈ l, ∃ z : Str, k = Sum.inr z := fun k hk => by
    obtain ⟨z, _, e⟩ := List.mem_map.mp (pm.mem_iff.mp hk)
    exact ⟨z, e.symm⟩
  have pr : ∀ l : List Key, (∀ k ∈ l, ∃ z : Str, k = Sum.inr z) → ∃ ys : List Str, l = ys.map Sum.inr := by
    intro l
    induction l with
    | nil => intro _; exact ⟨[], rfl⟩
    | cons k l ih =>
      intro h
      obtain ⟨z, rfl⟩ := h k List.mem_cons_self
      obtain ⟨ys, rfl⟩ := ih fun j hj => h j (List.mem_cons_of_mem _ hj)
      exact ⟨z :: ys, rfl⟩
  obtain ⟨ys, rfl⟩ := pr l all
  refine ⟨ys, rfl, ?_⟩
  have := pm.filterMap (fun k : Key => match k with | .inr z => some z | .inl _ => none)
  have id : ∀ l : List Str, (l.map Sum.inr).filterMap (fun k : Key => match k with | .inr z => some z | .inl _ => none) = l := by
    intro l
    induction l with
    | nil => rfl
    | cons z l ih => simp [ih]
  rw [id, id] at this
  exact this
theorem cr_sortS (hc : X.calm = true) : CallR X (.builtin "sorted") (rSortS X.w) := by
  intro pins s σ H xs us Q I r hyp
  obtain ⟨a, zs, rfl, ha, q⟩ := hyp
  obtain ⟨u, rfl, ru⟩ := vals1 r
  cases ru
  obtain ⟨o, es, ep, t, ho, hex, hd, g, pm, nd, hb, hf, hr, hl⟩ := setS_get I ha
  refine Calls.call_function_entry kind_sorted plain_sorted entry_sorted (args_sorted1 _) ?_
  unfold Builtin.«sorted»
  refine wpAny_bind (m := checkCount "sorted" 1 1 _) (wpAny_pure ?_)
  refine wpAny_bind (L2.collect_set (A := X.A.in1) (I.ok.hd hc) ⟨o, ho, hex.1, hd⟩ hf hb hr hl fun s1 vs k1 hz g1 o1 pv => ?_)
  -- the values that come are texts, a rearrangement
  obtain ⟨zs1, e1, p1⟩ := perm_inr pm
  obtain ⟨ws, hw, pw⟩ : ∃ ws : List Str, StrsAre vs ws ∧ ws.Perm zs := by
    obtain ⟨l, hl, el⟩ : ∃ l : List (Int × Value), l.Perm es.toList ∧ l.map (·.2) = vs := by
      clear hl hr hf hb nd pm g hd hex ho q ha e1 p1
      have : ∀ (vs : List Value) (l : List (Int × Value)), vs.Perm (l.map (·.2)) → ∃ l' : List (Int × Value), l'.Perm l ∧ l'.map (·.2) = vs := by
        intro vs l h
        generalize hm : l.map (·.2) = ms at h
        induction h generalizing l with
        | nil => exact ⟨l, .refl l, hm⟩
        | @cons x xs ys _ ih =>
          cases l with
          | nil => simp at hm
          | cons e l =>
            rw [List.map_cons] at hm
            obtain ⟨l', h1, h2⟩ := ih l (List.cons.inj hm).2
            exact ⟨e :: l', h1.cons e, by rw [List.map_cons, h2, (List.cons.inj hm).1]⟩
        | swap x y xs =>
          cases l with
          | nil => simp at hm
          | cons e l =>
            cases l with
            | nil => simp at hm
            | cons f l =>
              rw [List.map_cons, List.map_cons] at hm
              obtain ⟨h1, h2⟩ := List.cons.inj hm
              obtain ⟨h3, h4⟩ := List.cons.inj h2
              exact ⟨f :: e :: l, .swap _ _ _, by rw [List.map_cons, List.map_cons, h1, h3, h4]⟩
        | trans _ _ ih1 ih2 =>
          obtain ⟨l2, h1, h2⟩ := ih2 l hm
          obtain ⟨l3, h3, h4⟩ := ih1 l2 h2
          exact ⟨l3, h3.trans h1, h4⟩
      exact this vs es.toList pv
    obtain ⟨ws, ew, pw⟩ := perm_inr ((hl.map keyE).trans pm)
    exact ⟨ws, by rw [← el]; exact strs_of_keys (fun e he => g e (hl.mem_iff.mp he)) ew, pw⟩
  have len : vs.length ≤ sizeLine := by
    rw [pv.length_eq, List.length_map, Array.length_toList]
    exact Nat.le_trans (Nat.le_of_lt hb) (by decide)
  refine wpAny_bind (wpAny_newList ?_ len)
  have hoL : (s1.heap.push (seqObj "list" vs.toArray 0)).get? s1.heap.objs.size = some (seqObj "list" vs.toArray 0) := Heap.get?_push_size _ rfl
  refine wpAny_bind (wpAny_holding (wpAny_call_entry slot_list_sort ⟨_, hoL, rfl⟩ entry_list_sort
    (list_sort_treeKAny strKind_oneLt (s := { s1 with heap := s1.heap.push (seqObj "list" vs.toArray 0) }) hoL hw.keysOf (fun v₁ v₂ rest e => keyKind_strs (by rw [← e]; exact hw)) len fun st' hp hs => ⟨_, rfl, ?_⟩)
    (args_list_sort _)))
  obtain ⟨ys, y1, y2, y3⟩ := sorted_out_str hw hp hs
  obtain ⟨c, hc'⟩ := sortedHeap_at (vs := vs) (out := (arrOf st').map (·.2)) hoL
  have fresh : H s1.heap.objs.size = none := I.hok.fresh hz
  have keep : ∀ b u, s.heap.get? b = some u → (sortedHeap (s1.heap.push (seqObj "list" vs.toArray 0)) s1.heap.objs.size vs ((arrOf st').map (·.2))).get? b = some u := fun b u e => by
    have e1 := k1 b u e
    have lt := Heap.lt_size e1
    rw [sortedHeap_old (Nat.ne_of_lt lt) (by rw [size_push']; exact Nat.lt_succ_of_lt lt)]
    exact Heap.get?_push_of_some _ e1
  have lenY : (ys.map V.str).length ≤ sizeLine := by
    rw [List.length_map, y2.length_eq, ← hw.length]; exact len
  have J : Inv X pins σ (L2.upd H s1.heap.objs.size (.lst (ys.map V.str))) { s with heap := sortedHeap (s1.heap.push (seqObj "list" vs.toArray 0)) s1.heap.objs.size vs ((arrOf st').map (·.2)), gens := s1.gens, drawn := s1.drawn, toks := s1.toks } :=
    I.call (ch := []) (Un.laid keep hz fresh) (I.hok.laid keep hz ⟨lenY, ((arrOf st').map (·.2)).toList, c, vals_of_strs y1, by rw [Array.toArray_toList]; exact hc'⟩) (by rw [g1]; exact I.bare) (fun _ z => nomatch z)
  refine wpAny_pure ⟨_, rfl, .ref s1.heap.objs.size, _, ?_, rfl, q ys _ (y2.trans pw) y3 fresh⟩
  cases s1
  cases s
  cases o1
  exact J
def bSortS : List D → W D
  | [.ref a] => ⟨fun h Q _ => ∃ zs : List Str, h a = some (.tset (zs.map Sum.inr)) ∧ ∀ (ys : List Str) (p : Addr), ys.Perm zs → sortedS ys = true → h p = none → Q (.ref p) (h.upd p (.lst (ys.map D.str))), fun g ⟨a, b, k⟩ => ⟨a, b, fun ys p h1 h2 h3 => g _ _ (k ys p h1 h2 h3)⟩⟩
  | _ => W.fail
theorem s_sortS : SimL K EK (rSortS K.w) bSortS := fun H h xs ds Q hr rp run => by
  unfold bSortS at run
  split at run
  · obtain ⟨zs, ha, run⟩ := run
    obtain ⟨v, rfl, r1⟩ := reps1 rp
    exact ⟨_, zs, by rw [rep_ref r1], hr _ _ ha, fun ys p h1 h2 hp => run ys p h1 h2 (hr.none hp) _ _ (Ext.laid hp) (hr.laid hp ⟨_, upd_same, strs_reps ys⟩) (.ref p)⟩
  · exact run.elim
end

def Sub (h h' : DH) : Prop := ∀ a o, h a = some o → h' a = some o
@[reducible] def W.forget {α : Type} (m : W α) : W α := ⟨fun h Q E => m.run h (fun a h' => ∃ h'', Sub h'' h' ∧ Q a h'') E, fun g x => m.mono (fun _ _ ⟨h, s, q⟩ => ⟨h, s, g _ _ q⟩) x⟩
theorem Sub.refl {h : DH} : Sub h h := fun _ _ e => e
theorem Sub.upd {h : DH} {p : Addr} {o : O} (n : h p = none) : Sub h (h.upd p o) := fun a u e => by
  rw [DH.upd_ne (fun z => by rw [z, n] at e; cases e)]; exact e
theorem Sub.trans {h h1 h2 : DH} (a : Sub h h1) (b : Sub h1 h2) : Sub h h2 := fun x o e => b x o (a x o e)
theorem HRel.sub {K : Gx} {H : Hp} {h h' : DH} (r : HRel K H h') (s : Sub h h') : HRel K H h := fun a o e => r a o (s a o e)
section
variable {X : Cx} {EK : EKt} {r : Lo} {e : Expr} {m : W D}
theorem spF_forget {K : Gx} {n : Nat} {f : List D → W D} {vs : List V} {H : Hp} {Q : VK} {E : XK} (x : spF K n (fun ds => W.forget (f ds)) vs H Q E) : spF K n f vs H Q E := by
  obtain ⟨ds, h, hl, rp, hr, run⟩ := x
  exact ⟨ds, h, hl, rp, hr, (f ds).mono (fun d h' ⟨h'', s, q⟩ v H' e hr' rp => q v H' e (hr'.sub s) rp) run⟩
end
end DL
namespace DL
open PySem PySem.Spec L2
@[reducible] def atO {α : Type} (a : Addr) (f : O → W α) : W α := ⟨fun h Q E => ∃ o, h a = some o ∧ (f o).run h Q E, fun g ⟨o, e, q⟩ => ⟨o, e, (f o).mono g q⟩⟩
section
variable {X : Cx} {EK : EKt} {K : Gx}
def ixO (e : D) : O → W D
  | .lst xs => match e with
    | .int i => W.opt (atI xs i)
    | _ => W.fail
  | .dK kvs => match keyD e with
    | some k => W.opt (findK kvs k)
    | none => W.fail
  | _ => W.fail
def opIx2 : D → D → W D
  | .tup xs, .int i => W.opt (atI xs i)
  | .cl xs, .int i => W.opt (atI xs i)
  | .str s, .int i => W.need (s.length ≤ sizeLine) (W.opt ((atI s.cps.toList i).map fun c => .str ⟨#[c]⟩))
  | .cd ks ds, .str z => W.opt (cdGet ks ds z)
  | .dk ks ds, e => match keyD e with
    | some k => W.opt (findK (ks.zip ds) k)
    | none => W.fail
  | .ref a, e => atO a (ixO e)
  | _, _ => W.fail
theorem ix_2 (hu : X.A.units + 64 < cLine) : IxR X (fun x y H Q => (rIx X.K x y H Q ∨ rIxD X.K X.w x y H Q) ∨ rIxK x y H Q) := ix_A.or (ix_dK hu)
theorem s_ix2 : Sim2 K EK (fun x y H Q => (rIx K.K x y H Q ∨ rIxD K.K K.w x y H Q) ∨ rIxK x y H Q) opIx2 := fun H h x y d e Q hr rx ry run => by
  unfold opIx2 at run
  split at run
  · obtain ⟨v, ev, run⟩ := run
    exact .inl (.inl (s_ix (EK := EK) H h x y _ _ Q hr rx ry ⟨v, ev, run⟩))
  · obtain ⟨v, ev, run⟩ := run
    exact .inl (.inl (s_ix (EK := EK) H h x y _ _ Q hr rx ry ⟨v, ev, run⟩))
  · obtain ⟨z, v, ev, run⟩ := run
    obtain ⟨c, hc, rfl⟩ := Option.map_eq_some_iff.mp ev
    exact .inl (.inl (s_ix (EK := EK) H h x y _ _ Q hr rx ry ⟨_, ⟨z, c, hc, rfl⟩, run⟩))
  · exact .inl (.inr (s_ixCd (EK := EK) H h x y _ _ Q hr rx ry run))
  · split at run
    · rename_i k hk
      obtain ⟨v, ev, run⟩ := run
      exact .inr (s_ixK (EK := EK) H h x y _ _ Q hr rx ry ⟨_, k, v, rfl, hk, ev, run⟩)
    · exact run.elim
  · obtain ⟨o, ho, run⟩ := run
    unfold ixO at run
    split at run
    · split at run
      · obtain ⟨v, ev, run⟩ := run
        exact .inl (.inl (s_ix (EK := EK) H h x y _ _ Q hr rx ry ⟨v, ⟨_, ho, ev⟩, run⟩))
      · exact run.elim
    · split at run
      · rename_i k hk
        obtain ⟨v, ev, run⟩ := run
        exact .inr (s_ixK (EK := EK) H h x y _ _ Q hr rx ry ⟨_, k, v, ho, hk, ev, run⟩)
      · exact run.elim
    · exact run.elim
  · exact run.elim
def inKeys (kvs : List (Key × D)) (x : D) : W Bool := match keyD x with
  | some k => W.pure (findK kvs k).isSome
  | none => W.fail
def inO (x : D) : O → W Bool
  | .lst xs => W.need (flat x = true ∧ xs.all flat = true) (W.pure (inF x xs))
  | .dT kvs => W.need (isTup x = true ∧ keyOk x = true ∧ (nk x).depth ≤ 8) (W.pure (findT kvs x).isSome)
  | .dK kvs => inKeys kvs x
  | .tset ks => match keyD x with
    | some k => W.pure (decide (k ∈ ks))
    | none => W.fail
  | _ => W.fail
def inSign (z : Str) : D → W Bool
  | .str c => ⟨fun h Q _ => ∃ n, c = ⟨#[n]⟩ ∧ Q (decide (n ∈ z.cps.toList)) h, fun g ⟨n, a, b⟩ => ⟨n, a, g _ _ b⟩⟩
  | _ => W.fail
def opIn2 (x : D) : D → W Bool
  | .tup xs => W.need (flat x = true ∧ xs.all flat = true) (W.pure (inF x xs))
  | .cl xs => W.need (flat x = true ∧ xs.all flat = true) (W.pure (inF x xs))
  | .str z => inSign z x
  | .dk ks ds => inKeys (ks.zip ds) x
  | .ref a => atO a (inO x)
  | _ => W.fail
@[reducible] def opNin2 (x y : D) : W Bool := (opIn2 x y).bind fun b => W.pure (!b)
@[reducible] def rIn2 (X : Gx) (neg : Bool) : R2 := fun x y H Q => (((rIn X.K neg x y H Q ∨ rInT X neg x y H Q) ∨ ∃ (c : Nat) (z : Str), x = .str ⟨#[c]⟩ ∧ y = .str z ∧ Q (.bl (if neg then !decide (c ∈ z.cps.toList) else decide (c ∈ z.cps.toList))) H) ∨ rInK neg x y H Q) ∨ rInS X.w neg x y H Q
theorem o_in2 (hu : X.A.units + 64 < cLine) : OpR X (compareOp .In) (rIn2 X.gx false) := (((o_in hu).or op_in_sign).or (o_inK hu)).or o_inS
theorem o_nin2 (hu : X.A.units + 64 < cLine) : OpR X (compareOp .NotIn) (rIn2 X.gx true) := (((o_nin hu).or op_notIn_sign).or (o_ninK hu)).or o_ninS
theorem s_in2g (neg : Bool) : SimC K EK (rIn2 K neg) (fun x y => (opIn2 x y).bind fun b => W.pure (if neg then !b else b)) := fun H h x y d e Q hr rx ry run => by
  have lst : ∀ {xs : List D}, Items h e xs → flat d = true ∧ xs.all flat = true → (∀ H', Ext K H H' → HRel K H' h → Q (.bl (if neg then !inF d xs else inF d xs)) H') → rIn2 K neg x y H Q := fun i f k => by
    refine .inl (.inl (.inl (.inl ?_)))
    cases neg with
    | false => exact s_inF (EK := EK) H h x y d e Q hr rx ry ⟨_, i, f.1, f.2, fun H' e' hr' => k H' e' hr'⟩
    | true => exact s_ninF (EK := EK) H h x y d e Q hr rx ry ⟨_, i, f.1, f.2, fun H' e' hr' => k H' e' hr'⟩
  have dct : ∀ {kvs : List (Key × D)} {k : Key}, DctI h e kvs → keyD d = some k → (∀ H', Ext K H H' → HRel K H' h → Q (.bl (if neg then !(findK kvs k).isSome else (findK kvs k).isSome)) H') → rIn2 K neg x y H Q := fun i hk q => by
    refine .inl (.inr ?_)
    cases neg with
    | false => exact s_inK (EK := EK) H h x y d e Q hr rx ry ⟨_, _, i, hk, fun H' e' hr' => q H' e' hr'⟩
    | true => exact s_ninK (EK := EK) H h x y d e Q hr rx ry ⟨_, _, i, hk, fun H' e' hr' => q H' e' hr'⟩
  have kys : ∀ {kvs : List (Key × D)}, DctI h e kvs → (inKeys kvs d).run h (fun b h' => ∀ H', Ext K H H' → HRel K H' h' → Q (.bl (if neg then !b else b)) H') EK → rIn2 K neg x y H Q := fun {kvs} i q => by
    unfold inKeys at q
    cases hk : keyD d with
    | none => rw [hk] at q; exact q.elim
    | some k => rw [hk] at q; exact dct i hk q
  cases e with
  | tup xs => exact lst rfl run.1 run.2
  | cl xs => exact lst rfl run.1 run.2
  | str z =>
    cases d with
    | str c =>
      obtain ⟨n, rfl, run⟩ := run
      rw [rep_str rx, rep_str ry]
      exact .inl (.inl (.inr ⟨n, _, rfl, rfl, run H Ext.refl hr⟩))
    | _ => exact (show False from run).elim
  | dk ks ds => exact kys rfl run
  | ref a =>
    obtain ⟨o, ho, run⟩ := run
    cases o with
    | lst xs => exact lst ho run.1 run.2
    | dT kvs =>
      refine .inl (.inl (.inl (.inr ?_)))
      obtain ⟨⟨f1, f2, f3⟩, run⟩ := run
      cases neg with
      | false => exact s_inT (EK := EK) H h x y _ _ Q hr rx ry ⟨_, _, rfl, ho, f1, f2, f3, run⟩
      | true => exact s_ninT (EK := EK) H h x y _ _ Q hr rx ry ⟨_, _, rfl, ho, f1, f2, f3, run⟩
    | dK kvs => exact kys ho run
    | tset ks =>
      unfold inO at run
      cases hk : keyD d with
      | none => simp only [hk] at run; exact run.elim
      | some k =>
        simp only [hk] at run
        refine .inr ?_
        cases neg with
        | false => exact s_inS (EK := EK) H h x y _ _ Q hr rx ry ⟨_, k, _, rfl, hk, ho, run⟩
        | true => exact s_ninS (EK := EK) H h x y _ _ Q hr rx ry ⟨_, k, _, rfl, hk, ho, run⟩
    | _ => exact (show False from run).elim
  | _ => exact (show False from run).elim
theorem s_in2 : SimC K EK (rIn2 K false) opIn2 := fun H h x y d e Q hr rx ry run => s_in2g false H h x y d e Q hr rx ry ((opIn2 d e).mono (fun b h' q => q) run)
theorem s_nin2 : SimC K EK (rIn2 K true) opNin2 := fun H h x y d e Q hr rx ry run => s_in2g true H h x y d e Q hr rx ry ((opIn2 d e).mono (fun b h' q => q) run)
def lenO : O → W D
  | .lst xs => W.pure (.int xs.length)
  | .dT kvs => W.pure (.int kvs.length)
  | .dK kvs => W.pure (.int kvs.length)
  | .tset ks => W.pure (.int ks.length)
  | _ => W.fail
def bLen2 : List D → W D
  | [.str y] => W.need (y.length ≤ sizeLine) (W.pure (.int y.length))
  | [.tup xs] => W.pure (.int xs.length)
  | [.cl xs] => W.pure (.int xs.length)
  | [.dk ks ds] => W.pure (.int (ks.zip ds).length)
  | [.ref a] => atO a lenO
  | _ => W.fail
@[reducible] def rLen2 (K : Gx) : List V → Hp → VK → Prop := fun xs H Q => ((rLenA K.K xs H Q ∨ rLenT K xs H Q) ∨ rLenK xs H Q) ∨ rLenS K.w xs H Q
theorem c_len2 : CallR X (.builtin "len") (rLen2 X.gx) := (c_lenA.or c_lenK).or c_lenS
theorem s_len2 : SimL K EK (rLen2 K) bLen2 := fun H h xs ds Q hr rp run => by
  unfold bLen2 at run
  split at run
  · exact .inl (.inl (.inl (s_len (EK := EK) H h xs _ Q hr rp run)))
  · exact .inl (.inl (.inl (s_len (EK := EK) H h xs _ Q hr rp ⟨_, rfl, run⟩)))
  · exact .inl (.inl (.inl (s_len (EK := EK) H h xs _ Q hr rp ⟨_, rfl, run⟩)))
  · exact .inl (.inr (s_lenK (EK := EK) H h xs _ Q hr rp ⟨_, rfl, run⟩))
  · obtain ⟨o, ho, run⟩ := run
    unfold lenO at run
    split at run
    · exact .inl (.inl (.inl (s_len (EK := EK) H h xs _ Q hr rp ⟨_, ho, run⟩)))
    · exact .inl (.inl (.inr (s_lenT (EK := EK) H h xs _ Q hr rp ⟨_, ho, run⟩)))
    · exact .inl (.inr (s_lenK (EK := EK) H h xs _ Q hr rp ⟨_, ho, run⟩))
    · exact .inr (s_lenS (EK := EK) H h xs _ Q hr rp ⟨_, ho, run⟩)
    · exact run.elim
  · exact run.elim
def stO (a : Addr) (e v : D) : O → W Unit
  | .lst xs => match e with
    | .int k => ⟨fun h Q _ => ∃ j, ixN xs.length k = some j ∧ Q () (h.upd a (.lst (xs.set j v))), fun g ⟨j, q, k⟩ => ⟨j, q, g _ _ k⟩⟩
    | _ => W.fail
  | .dK kvs => match keyD e with
    | some k => ⟨fun h Q _ => kvs.length < sizeLine ∧ Q () (h.upd a (.dK (putD kvs k v))), fun g ⟨q, k⟩ => ⟨q, g _ _ k⟩⟩
    | none => W.fail
  | .dT kvs => match e with
    | .tup ks => ⟨fun h Q _ => keyOk (.tup ks) = true ∧ (nk (.tup ks)).depth ≤ 8 ∧ kvs.length < sizeLine ∧ Q () (h.upd a (.dT (putT kvs (.tup ks) v))), fun g ⟨a, b, c, k⟩ => ⟨a, b, c, g _ _ k⟩⟩
    | _ => W.fail
  | _ => W.fail
def st2 : D → D → D → W Unit
  | .ref a, e, v => atO a (stO a e v)
  | _, _, _ => W.fail
theorem set_2 (hu : X.A.units + 64 < cLine) : PSet X (fun x y z H Q => (rSetL x y z H Q ∨ rSetT X.gx x y z H Q) ∨ rSetK x y z H Q) := pset_or (set_A hu) (set_K hu)
theorem s_set2 : SimS K EK (fun x y z H Q => (rSetL x y z H Q ∨ rSetT K x y z H Q) ∨ rSetK x y z H Q) st2 := fun H h x y z d e f Q hr rx ry rz run => by
  unfold st2 at run
  split at run
  · obtain ⟨o, ho, run⟩ := run
    unfold stO at run
    split at run
    · split at run
      · obtain ⟨j, hj, run⟩ := run
        exact .inl (.inl (s_setL (EK := EK) H h x y z _ _ _ Q hr rx ry rz ⟨_, j, ho, hj, run⟩))
      · exact run.elim
    · split at run
      · rename_i k hk
        exact .inr (s_setK (EK := EK) H h x y z _ _ _ Q hr rx ry rz ⟨_, k, ho, hk, run.1, run.2⟩)
      · exact run.elim
    · split at run
      · obtain ⟨k1, k2, k3, run⟩ := run
        exact .inl (.inr (s_setT (EK := EK) H h x y z _ _ _ Q hr rx ry rz ⟨_, ho, rfl, k1, k2, k3, run⟩))
      · exact run.elim
    · exact run.elim
  · exact run.elim
end
end DL
namespace DL
open PySem L2
theorem spF_congr {K : Gx} {n : Nat} {f g : List D → W D} (h : ∀ ds, ds.length = n → f ds = g ds) : spF K n f = spF K n g := by
  funext vs H Q E
  refine propext ⟨fun ⟨ds, h0, a, b, c, d⟩ => ⟨ds, h0, a, b, c, by rw [← h ds a]; exact d⟩, fun ⟨ds, h0, a, b, c, d⟩ => ⟨ds, h0, a, b, c, by rw [h ds a]; exact d⟩⟩
theorem fng_cast {P : Program} {w : World} {K : PySem.W.Frag} {mg : Str → Option Value} {base : Heap} {k : Nat} {g : Addr} {fd : FuncData} {ps : List Str} {f f' : List D → W D} {n : Nat}
    (F : FnG P w K mg base CX0 k g fd ps (spF ⟨K, w, P, mg⟩ n f)) (h : ∀ ds, ds.length = n → f ds = f' ds) : FnG P w K mg base CX0 k g fd ps (spF ⟨K, w, P, mg⟩ n f') := by
  rw [← spF_congr h]; exact F
theorem de_globE {X : Cx} {EK : EKt} {r : Lo} {pos : Pos} {x : Str} {d : D} (hg : Gl X x) (h : ∃ (u : Value) (v : V), X.mg x = some u ∧ RelV v u ∧ ∀ H, Rep X.gx H v d) (hd : (x == ("__debug__" : Str)) = false := by decide +kernel) : DE X EK r (.Name x pos) (W.pure d) := by
  obtain ⟨u, v, h1, h2, h3⟩ := h
  exact de_glob hg h1 h2 h3 hd
@[reducible] def apB1 (f : D → W (Fl Unit Unit)) : List D → W (Fl Unit Unit) | [a0] => f a0 | _ => W.fail
@[reducible] def apB2 (f : D → D → W (Fl Unit Unit)) : List D → W (Fl Unit Unit) | [a0, a1] => f a0 a1 | _ => W.fail
@[reducible] def apB3 (f : D → D → D → W (Fl Unit Unit)) : List D → W (Fl Unit Unit) | [a0, a1, a2] => f a0 a1 a2 | _ => W.fail
@[reducible] def apB4 (f : D → D → D → D → W (Fl Unit Unit)) : List D → W (Fl Unit Unit) | [a0, a1, a2, a3] => f a0 a1 a2 a3 | _ => W.fail
theorem rl_local {scope : Scope} {env : Env} {x : Str} (h : scope.names.lookup x = some .local) : (relabel scope env).names.lookup x = some .local := lookup_relabel_local h
theorem rl_stay {env : Env} {k0 : NameKind} (h0 : k0 ≠ .free) : ∀ {names : List (Str × NameKind)} {x : Str}, names.lookup x = some k0 →
    (names.map fun (n, k) => if (k == NameKind.free && env.scope.kind == .function && env.kindOf n == some .cell) then (n, NameKind.cell) else (n, k)).lookup x = some k0
  | [], x, h => by simp at h
  | (n, k) :: r, x, h => by
    have ih := rl_stay (env := env) h0 (names := r) (x := x)
    simp only [List.map_cons]
    cases hx : x == n with
    | true =>
      simp only [List.lookup_cons, hx] at h
      have hk : k = k0 := by simpa using h
      subst hk
      have hf : (k == NameKind.free) = false := by simpa using h0
      simp [List.lookup_cons, hx, hf]
    | false =>
      simp only [List.lookup_cons, hx] at h
      have := ih h
      split <;> simp only [List.lookup_cons, hx] <;> exact this
theorem rl_free' {env : Env} (hk : env.scope.kind = .function) : ∀ {names : List (Str × NameKind)} {x : Str}, names.lookup x = some .free → env.kindOf x = some .cell →
    (names.map fun (n, k) => if (k == NameKind.free && env.scope.kind == .function && env.kindOf n == some .cell) then (n, NameKind.cell) else (n, k)).lookup x = some .cell
  | [], x, h, _ => by simp at h
  | (n, k) :: r, x, h, he => by
    have ih := rl_free' hk (names := r) (x := x)
    simp only [List.map_cons]
    cases hx : x == n with
    | true =>
      simp only [List.lookup_cons, hx] at h
      have hk2 : k = .free := by simpa using h
      subst hk2
      have hn : x = n := by simpa using hx
      subst hn
      simp [hk, he]
    | false =>
      simp only [List.lookup_cons, hx] at h
      have := ih h he
      split <;> simp only [List.lookup_cons, hx] <;> exact this
theorem rl_glob {scope : Scope} {env : Env} {x : Str} (h : scope.names.lookup x = some .globalImplicit) : (relabel scope env).names.lookup x = some .globalImplicit := rl_stay (by decide) h
theorem rl_free {scope : Scope} {env : Env} {x : Str} (h : scope.names.lookup x = some .free) (hk : env.scope.kind = .function) (he : env.scope.names.lookup x = some .cell) : (relabel scope env).names.lookup x = some .cell := rl_free' hk h he
theorem bt_len : bootBuiltins "len" = some (.builtin "len") := by decide +kernel
theorem bt_sorted : bootBuiltins "sorted" = some (.builtin "sorted") := by decide +kernel
theorem bt_repr : bootBuiltins "repr" = some (.builtin "repr") := by decide +kernel
theorem bt_min : bootBuiltins "min" = some (.builtin "min") := by decide +kernel
theorem bt_list : bootBuiltins "list" = some (.type "list") := by decide +kernel
theorem bt_tuple : bootBuiltins "tuple" = some (.type "tuple") := by decide +kernel
theorem bt_int : bootBuiltins "int" = some (.type "int") := by decide +kernel
theorem bt_dict : bootBuiltins "dict" = some (.type "dict") := by decide +kernel
theorem bt_bool : bootBuiltins "bool" = some (.type "bool") := by decide +kernel
end DL
namespace DL
open PySem PySem.Spec L2
open PyProof.Rows (sortedS risingS ltCps_eq sortedS_of_pairwise)

@[reducible] def vAndT (a b : W D) : W D := a.bind fun x => (opTru x).bind fun k => if k = true then b else W.pure x
@[reducible] def vOrT (a b : W D) : W D := a.bind fun x => (opTru x).bind fun k => if k = true then W.pure x else b
section
variable {X : Cx} {EK : EKt} {r : Lo} {a b : Expr} {rest : List Expr} {ma mb : W D} {pos : Pos}
theorem truV_of {K : Gx} {H : Hp} {h : DH} {x : V} {d : D} {k : Bool} (hr : HRel K H h) (rx : Rep K H x d) (t : Tru h d k) : TruV K.K x H k := by
  have s := s_tru (K := K) (EK := fun _ _ => False) H h x d (fun k' _ => k' = k) hr rx ⟨k, t, fun _ _ _ => rfl⟩
  obtain ⟨k', t', e⟩ := s
  subst e
  exact t'
theorem de_orT (ha : DE X EK r a ma) (hb : DE X EK r (.BoolOp .Or (b :: rest) pos) mb) : DE X EK r (.BoolOp .Or (a :: b :: rest) pos) (vOrT ma mb) :=
  ⟨pe_weak (pe_orT ha.pe hb.pe) fun σ H Q x => glue1 x fun d h' v H' e hr rp l ⟨k, t, run⟩ => by
    refine ⟨k, truV_of hr rp t, ?_⟩
    cases k with
    | true => simp only [↓reduceIte] at run ⊢; exact run v H' Ext.refl hr rp
    | false => simp only [Bool.false_eq_true, ↓reduceIte] at run ⊢; exact ⟨h', l, hr, run⟩⟩
theorem de_andT (ha : DE X EK r a ma) (hb : DE X EK r (.BoolOp .And (b :: rest) pos) mb) : DE X EK r (.BoolOp .And (a :: b :: rest) pos) (vAndT ma mb) :=
  ⟨pe_weak (pe_andT ha.pe hb.pe) fun σ H Q x => glue1 x fun d h' v H' e hr rp l ⟨k, t, run⟩ => by
    refine ⟨k, truV_of hr rp t, ?_⟩
    cases k with
    | true => simp only [↓reduceIte] at run ⊢; exact ⟨h', l, hr, run⟩
    | false => simp only [Bool.false_eq_true, ↓reduceIte] at run ⊢; exact run v H' Ext.refl hr rp⟩
@[reducible] def vNotT (a : W D) : W D := a.bind fun x => (opTru x).bind fun k => W.pure (.bl (!k))
end

def frzO (a : Addr) : O → W D
  | .lst xs => ⟨fun h Q _ => Q (.cl xs) (h.del a), fun g k => g _ _ k⟩
  | .dK kvs => ⟨fun h Q _ => Q (.dk (kvs.map Prod.fst) (kvs.map Prod.snd)) (h.del a), fun g k => g _ _ k⟩
  | _ => W.pure (.ref a)
def frzQ : D → W D
  | .ref a => atO a (frzO a)
  | d => W.pure d
section
variable {X : Cx} {EK : EKt} {r : Lo} {e : Expr} {m : W D} {pins : List (Addr × Obj)} {σ : L2.St} {H : Hp} {s : Shared}
theorem frzQ_step {h : DH} {v : V} {d : D} {Q : D → DH → Prop} (I : Inv X pins σ H s) (hr : HRel X.gx H h) (rp : Rep X.gx H v d) {EK : EKt} (run : (frzQ d).run h Q EK) :
    ∃ H' d' h', Inv X pins σ H' s ∧ Ext X.gx H H' ∧ HRel X.gx H' h' ∧ Rep X.gx H' v d' ∧ Q d' h' := by
  have triv : Q d h → ∃ H' d' h', Inv X pins σ H' s ∧ Ext X.gx H H' ∧ HRel X.gx H' h' ∧ Rep X.gx H' v d' ∧ Q d' h' := fun q => ⟨H, d, h, I, Ext.refl, hr, rp, q⟩
  cases d with
  | ref a =>
    obtain ⟨o, ho, run⟩ := run
    cases o with
    | lst xs => exact frz_step (EK := EK) I hr rp ⟨a, rfl, .inl ⟨xs, ho, run⟩⟩
    | dK kvs => exact frz_step (EK := EK) I hr rp ⟨a, rfl, .inr ⟨kvs, ho, run⟩⟩
    | _ => exact triv run
  | _ => exact triv run
theorem de_frzQ (he : DE X EK r e m) : DE X EK r e (m.bind frzQ) := by
  refine ⟨⟨fun pins s σ H Q I x => ?_⟩⟩
  obtain ⟨h0, l, hr, run⟩ := x
  refine wpAny_mono (he.pe.run pins s σ H (fun v H1 => ∃ d h1, Ext X.gx H H1 ∧ HRel X.gx H1 h1 ∧ Rep X.gx H1 v d ∧ (frzQ d).run h1 (fun d h' => ∀ v H', Ext X.gx H H' → HRel X.gx H' h' → Rep X.gx H' v d → Q v H') EK) I
    ⟨h0, l, hr, m.mono (fun d h1 q v H1 e1 hr1 rp1 => ⟨d, h1, e1, hr1, rp1, q⟩) run⟩) ?_ fun _ _ q => q
  rintro v s1 ⟨x, H1, I1, rx, d, h1, e1, hr1, rp1, q⟩
  obtain ⟨H2, d', h2, I2, e2, hr2, rp2, q2⟩ := frzQ_step I1 hr1 rp1 q
  exact ⟨x, H2, I2, rx, q2 x H2 (e1.trans e2) hr2 rp2⟩
variable {L C : Type} {Jn : C → Lo} {Jl : L → Lo} {sts : List Stmt}
theorem db_frzQ {d : D} {k : D → W (Fl L C)} (i : Nat) (hi : r[i]? = some (some d)) (h2 : ∀ d', DB X EK Jn Jl (r.set i (some d')) sts (k d')) : DB X EK Jn Jl r sts ((frzQ d).bind k) := by
  refine ⟨⟨fun pins s σ H D I x => ?_⟩⟩
  obtain ⟨h, l, hr, run⟩ := x
  obtain ⟨v, hv, rp⟩ := l.at_ i d hi
  obtain ⟨H2, d', h2', I2, e2, hr2, rp2, q2⟩ := frzQ_step I hr rp (show (frzQ d).run h (fun d' h' => (k d').run h' _ EK) EK from run)
  refine (h2 d').ps.run pins s σ H2 D I2 ⟨h2', ?_, hr2, (k d').mono (fun fl h3 q3 σ3 H3 e3 hr3 => q3 σ3 H3 (e2.trans e3) hr3) q2⟩
  refine ⟨by rw [List.length_set]; exact l.len, fun j e q => ?_⟩
  by_cases hj : j = i
  · subst hj
    rw [List.getElem?_set, if_pos rfl] at q
    split at q
    · cases q; exact ⟨v, hv, rp2⟩
    · cases q
  · rw [List.getElem?_set_ne (Ne.symm hj)] at q
    obtain ⟨u, a, b⟩ := l.at_ j e q
    exact ⟨u, a, b.mono e2⟩
end
theorem new_frz {h : DH} {zs : List D} {Q : D → DH → Prop} {E : EKt} (q : Q (.cl zs) h) : ∀ p, h p = none → (frzQ (.ref p)).run (h.upd p (.lst zs)) Q E := fun p hp =>
  ⟨_, DH.upd_same, by show Q (.cl zs) ((h.upd p (.lst zs)).del p); rw [DH.upd_del hp]; exact q⟩

@[reducible] def eLstF (ms : List (W D)) : W D := (eArgs ms).bind fun ds => W.pure (.cl ds)
def opAddF : D → D → W D
  | .int i, .int j => W.pure (.int (i + j))
  | .str x, .str y => W.need (x.length + y.length ≤ sizeLine) (W.pure (.str (x ++ y)))
  | .tup xs, .tup ys => W.need (xs ≠ [] ∧ xs.length + ys.length ≤ sizeLine) (W.pure (.tup (xs ++ ys)))
  | .cl xs, .cl ys => W.need (xs.length + ys.length ≤ sizeLine) (W.pure (.cl (xs ++ ys)))
  | d, e => ⟨fun h Q _ => ∃ xs ys, LstI h d xs ∧ LstI h e ys ∧ xs.length + ys.length ≤ sizeLine ∧ Q (.cl (xs ++ ys)) h, fun g ⟨xs, ys, p, q, z, k⟩ => ⟨xs, ys, p, q, z, g _ _ k⟩⟩
def opSlF : D → Option Int → Option Int → W D
  | .tup xs, lo, hi => W.pure (.tup (cutD xs lo hi))
  | .cl xs, lo, hi => W.pure (.cl (cutD xs lo hi))
  | .str z, lo, hi => W.need (z.length ≤ sizeLine) (W.pure (.str (cutS z lo hi)))
  | .ref a, lo, hi => atO a fun o => match o with
    | .lst xs => W.pure (.cl (cutD xs lo hi))
    | _ => W.fail
  | _, _, _ => W.fail
def bListF : List D → W D
  | [.tup xs] => W.pure (.cl xs)
  | [.cl xs] => W.pure (.cl xs)
  | [.ref a] => atO a fun o => match o with
    | .lst xs => W.pure (.cl xs)
    | _ => W.fail
  | _ => W.fail
def bTuple2 : List D → W D
  | [.tup xs] => W.pure (.tup xs)
  | [.cl xs] => W.pure (.tup xs)
  | [.ref a] => atO a fun o => match o with
    | .lst xs => W.pure (.tup xs)
    | _ => W.fail
  | _ => W.fail
section
variable {X : Cx} {EK : EKt} {K : Gx} {r : Lo} {a b : Expr} {es : List Expr} {el eh : Option Expr} {ma mb : W D} {ms : List (W D)} {ml mh : W (Option Int)} {pos p2 : Pos}
theorem de_lstF (ha : DA X EK r es ms) (hl : ms.length ≤ 100000 := by decide) : DE X EK r (.List es pos) (eLstF ms) :=
  de_conv (de_frzQ (de_lst ha hl)) fun h Q run => (eArgs ms).mono (fun ds h' q p hp => new_frz q p hp) run
theorem addF_add {h : DH} {d e : D} {Q : D → DH → Prop} (run : (opAddF d e).run h Q EK) : ((opAdd d e).bind frzQ).run h Q EK := by
  have lst : ∀ {d e : D}, (opAdd d e = ⟨fun h Q _ => ∃ xs ys, LstI h d xs ∧ LstI h e ys ∧ xs.length + ys.length ≤ sizeLine ∧ ∀ p, h p = none → Q (.ref p) (h.upd p (.lst (xs ++ ys))), fun g ⟨xs, ys, p, q, z, k⟩ => ⟨xs, ys, p, q, z, fun p hp => g _ _ (k p hp)⟩⟩) →
      (∃ xs ys, LstI h d xs ∧ LstI h e ys ∧ xs.length + ys.length ≤ sizeLine ∧ Q (.cl (xs ++ ys)) h) → ((opAdd d e).bind frzQ).run h Q EK := fun eq ⟨xs, ys, a, b, c, k⟩ => by
    rw [eq]
    exact ⟨xs, ys, a, b, c, fun p hp => new_frz k p hp⟩
  unfold opAddF at run
  split at run
  · exact run
  · exact run
  · exact run
  · exact lst rfl ⟨_, _, rfl, rfl, run⟩
  · rename_i h1 h2 h3 h4
    refine lst ?_ run
    unfold opAdd
    split
    · exact absurd rfl (fun z => h1 _ _ rfl z)
    · exact absurd rfl (fun z => h2 _ _ rfl z)
    · exact absurd rfl (fun z => h3 _ _ rfl z)
    · rfl
def rRepR (K : PySem.W.Frag) : R2 := fun x y H Q => ∃ l k xs, x = .ref l ∧ y = .int k ∧ SqR K H l xs ∧ -(2 ^ 63) ≤ k ∧ k < 2 ^ 63 ∧ xs.length * k.toNat ≤ sizeLine ∧ ∀ p, H p = none → Q (.ref p) (L2.upd H p (.lst (List.replicate k.toNat xs).flatten))
theorem op_repR : OpR X (binaryOp .Mult) (rRepR X.K) := by
  intro pins t0 σ H x y v u Q I rx ry hyp
  obtain ⟨l, k, xs, rfl, rfl, sq, k1, k2, hz, q⟩ := hyp
  cases rx
  obtain ⟨t, rfl⟩ := ry
  obtain ⟨its, n, z, r, hl, e⟩ := sq.exact I
  have len : its.toArray.size * k.toNat ≤ sizeLine := by simp only [List.size_toArray]; rw [← hl]; exact hz
  have cap : ¬ its.toArray.size * k.toNat > (2 ^ 63 - 1) / 8 := Nat.not_lt_of_le (Nat.le_trans len (by decide))
  have fit : ¬ (!Builtin.List.listFitsIndex k) = true := by rw [fitsIndex_both k1 k2]; simp
  have long : ¬ Builtin.List.listTooLong (its.toArray.size * k.toNat) = true := by rw [notLongL len]; simp
  have new : List.foldl (fun x1 x2 => x1 ++ x2) #[] (List.replicate (if its.toArray.isEmpty = true then 0 else k.toNat) its.toArray) = (List.replicate k.toNat its).flatten.toArray := by
    have f0 : ∀ m : Nat, List.foldl (fun x1 x2 => x1 ++ x2) #[] (List.replicate m its.toArray) = (List.replicate m its).flatten.toArray := fun m => by
      simpa using foldl_rep its m []
    rw [f0]
    cases its with
    | nil => simp
    | cons a r' => simp
  refine wpAny_binaryOp_repeat_ref (T := "list") (U := "int") (by decide) ⟨_, e, rfl⟩ (fun s' => PySem.typeIs_int s' k t) PySem.noFill_list_mul PySem.F.fills_int_mul PySem.F.slot_int_rmul PySem.repeat_list PySem.F.slot_int_index.lookup ?_
  refine call_meets PySem.F.slot_int_rmul (PySem.typeIs_int t0 k t) PySem.F.entry_int_rmul (PySem.F.args_int_rmul_2 _ _) (PySem.int___rmul___int_list k t l its.toArray n) ⟨e, rfl, ⟨_, e, rfl⟩, ?_⟩
  refine call_meets PySem.F.slot_list_mul ⟨_, e, rfl⟩ PySem.F.entry_list_mul (PySem.F.args_list_mul_2 _ _) (AutoListH.list___mul___list_int_3 l its.toArray n k t fit cap long) ⟨e, ?_⟩
  rw [new]
  exact ⟨.ref _, _, I.lnew (t' := t0.toks) (r.rep k.toNat) (by rw [PyProof.Rows.lm_len_rep_flat, Nat.mul_comm]; exact hz), rfl, q _ I.fresh⟩
def rMul2 (K : PySem.W.Frag) : R2 := fun x y H Q => (rI CMul (fun i j => .int (i * j)) x y H Q ∨ rRepR K x y H Q) ∨ rRepF K x y H Q
theorem o_mul2 : OpR X (binaryOp .Mult) (rMul2 X.K) := (op_mul.or op_repR).or op_repF
def opMul2 : D → D → W D
  | .int i, .int j => W.need (CMul i j) (W.pure (.int (i * j)))
  | .tup xs, .int k => W.need (xs ≠ [] ∧ 2 ≤ k ∧ k ≤ 5000 ∧ xs.length ≤ 1000) (W.pure (.tup (List.replicate k.toNat xs).flatten))
  | d, .int k => ⟨fun h Q _ => ∃ xs, LstI h d xs ∧ -(2 ^ 63) ≤ k ∧ k < 2 ^ 63 ∧ xs.length * k.toNat ≤ sizeLine ∧ ∀ p, h p = none → Q (.ref p) (h.upd p (.lst (List.replicate k.toNat xs).flatten)), fun g ⟨xs, p, q, z, y, k⟩ => ⟨xs, p, q, z, y, fun p hp => g _ _ (k p hp)⟩⟩
  | _, _ => W.fail
theorem s_mul2 : Sim2 K EK (rMul2 K.K) opMul2 := fun H h x y d e Q hr rx ry run => by
  unfold opMul2 at run
  split at run
  · rw [rep_int rx, rep_int ry]
    exact .inl (.inl ⟨_, _, rfl, rfl, run.1, run.2 _ H Ext.refl hr (.int _)⟩)
  · rw [rep_int ry]
    obtain ⟨⟨n0, k1, k2, z⟩, run⟩ := run
    cases rx with
    | @tup a vs _ s rr =>
      refine .inr ⟨a, _, vs, rfl, rfl, s.1, fun e => n0 ?_, k1, k2, by rw [rr.length]; exact z, fun p o hp ho => run _ _ (Ext.laid hp) (hr.under hp) (.tup (SqP.of ho) ((reps_rep rr _).mono (Ext.laid hp)))⟩
      subst e; cases rr; rfl
  · obtain ⟨xs, i, z1, z2, z3, run⟩ := run
    rw [rep_int ry]
    obtain ⟨p, vs, e1, s1, rr⟩ := i.rep hr rx
    exact .inl (.inr ⟨p, _, vs, e1, rfl, s1, z1, z2, by rw [rr.length]; exact z3, fun q hq => run q (hr.none hq) _ _ (Ext.laid hq) (hr.laid hq ⟨_, upd_same, (reps_rep rr _).mono (Ext.laid hq)⟩) (.ref q)⟩)
  · exact run.elim
def opMulF2 : D → D → W D
  | .int i, .int j => W.need (CMul i j) (W.pure (.int (i * j)))
  | .tup xs, .int k => W.need (xs ≠ [] ∧ 2 ≤ k ∧ k ≤ 5000 ∧ xs.length ≤ 1000) (W.pure (.tup (List.replicate k.toNat xs).flatten))
  | .cl xs, .int k => W.need (-(2 ^ 63) ≤ k ∧ k < 2 ^ 63 ∧ xs.length * k.toNat ≤ sizeLine) (W.pure (.cl (List.replicate k.toNat xs).flatten))
  | _, _ => W.fail
theorem de_slF (ha : DE X EK r a ma) (hl : DO X EK r el ml) (hh : DO X EK r eh mh) : DE X EK r (.Subscript a (.Slice el eh none p2) pos) (ma.bind fun d => ml.bind fun l => mh.bind fun u => opSlF d l u) :=
  de_conv (de_frzQ (de_slA ha hl hh)) fun h Q run => ma.mono (fun d h1 q => ml.mono (fun l h2 q2 => mh.mono (fun u h3 q3 => by
    replace q3 : (opSlF d l u).run h3 Q EK := q3
    show ((opSlA d l u).bind frzQ).run h3 Q EK
    unfold opSlF at q3
    split at q3
    · exact q3
    · exact ⟨_, rfl, fun p hp => new_frz q3 p hp⟩
    · exact q3
    · obtain ⟨o, ho, q3⟩ := q3
      cases o with
      | lst xs => exact ⟨_, ho, fun p hp => new_frz q3 p hp⟩
      | _ => exact (show False from q3).elim
    · exact q3.elim) q2) q) run
theorem listF_ok {h : DH} {ds : List D} {Q : D → DH → Prop} (q : (bListF ds).run h Q EK) : ((bList ds).bind frzQ).run h Q EK := by
  unfold bListF at q
  split at q
  · exact ⟨_, rfl, fun p hp => new_frz q p hp⟩
  · exact ⟨_, rfl, fun p hp => new_frz q p hp⟩
  · obtain ⟨o, ho, q⟩ := q
    cases o with
    | lst xs => exact ⟨_, ho, fun p hp => new_frz q p hp⟩
    | _ => exact (show False from q).elim
  · exact q.elim
theorem tuple2_ok {h : DH} {ds : List D} {Q : D → DH → Prop} (q : (bTuple2 ds).run h Q EK) : (bTuple ds).run h Q EK := by
  unfold bTuple2 at q
  split at q
  · exact ⟨_, rfl, q⟩
  · exact ⟨_, rfl, q⟩
  · obtain ⟨o, ho, q⟩ := q
    cases o with
    | lst xs => exact ⟨_, ho, q⟩
    | _ => exact (show False from q).elim
  · exact q.elim
theorem de_callC {f f' : List D → W D} (he : DE X EK r a (eCall f ms)) (k : ∀ ds h Q, (f' ds).run h Q EK → (f ds).run h Q EK) : DE X EK r a (eCall f' ms) :=
  de_conv he fun h Q run => (eArgs ms).mono (fun ds h1 q => k ds h1 _ q) run
theorem de_callCF {f f' : List D → W D} (he : DE X EK r a (eCall f ms)) (k : ∀ ds h Q, (f' ds).run h Q EK → ((f ds).bind frzQ).run h Q EK) : DE X EK r a (eCall f' ms) :=
  de_conv (de_frzQ he) fun h Q run => (eArgs ms).mono (fun ds h1 q => k ds h1 _ q) run

def leS (a b : Str) : Bool := !decide (b.cps.toList < a.cps.toList)
def sortS (zs : List Str) : List Str := zs.mergeSort leS
theorem leS_total (a b : Str) : (leS a b || leS b a) = true := by
  unfold leS
  rcases List.le_total a.cps.toList b.cps.toList with h | h
  · have : ¬ b.cps.toList < a.cps.toList := List.not_lt.mpr h
    simp [this]
  · have : ¬ a.cps.toList < b.cps.toList := List.not_lt.mpr h
    simp [this]
theorem leS_iff {a b : Str} : leS a b = true ↔ a.cps.toList ≤ b.cps.toList := by
  unfold leS
  rw [Bool.not_eq_true', decide_eq_false_iff_not, List.not_lt]
theorem leS_trans (a b c : Str) (h1 : leS a b = true) (h2 : leS b c = true) : leS a c = true := leS_iff.mpr (List.le_trans (leS_iff.mp h1) (leS_iff.mp h2))
theorem leS_anti {a b : Str} (h1 : leS a b = true) (h2 : leS b a = true) : a = b := by
  have e := List.le_antisymm (leS_iff.mp h1) (leS_iff.mp h2)
  have e' : a.cps = b.cps := Array.toList_inj.mp e
  cases a; cases b
  simpa using e'
theorem rising_le : ∀ {p : Str} {l : List Str}, risingS p l = true → (∀ x ∈ l, leS p x = true) ∧ l.Pairwise fun a b => leS a b = true
  | p, [], _ => ⟨by simp, .nil⟩
  | p, x :: l, h => by
    unfold risingS at h
    rw [Bool.and_eq_true, ltCps_eq] at h
    obtain ⟨h1, h2⟩ := rising_le h.2
    have px : leS p x = true := h.1
    exact ⟨fun y hy => (List.mem_cons.mp hy).elim (fun e => e ▸ px) fun m => leS_trans _ _ _ px (h1 y m), .cons h1 h2⟩
theorem sortS_eq {ys zs : List Str} (p : ys.Perm zs) (s : sortedS ys = true) : ys = sortS zs := by
  have py : ys.Pairwise fun a b => leS a b = true := by
    cases ys with
    | nil => exact .nil
    | cons y ys => obtain ⟨h1, h2⟩ := rising_le (show risingS y ys = true from s); exact .cons h1 h2
  exact List.Perm.eq_of_pairwise (le := fun a b => leS a b = true) (fun a b _ _ h1 h2 => leS_anti h1 h2) py (List.pairwise_mergeSort leS_trans leS_total zs) (p.trans (List.mergeSort_perm zs leS).symm)
theorem sortS_perm (zs : List Str) : (sortS zs).Perm zs := List.mergeSort_perm zs leS
def strsD : List D → Option (List Str)
  | [] => some []
  | .str z :: ds => (strsD ds).map (z :: ·)
  | _ => none
theorem strsD_eq : ∀ {ds : List D} {zs : List Str}, strsD ds = some zs → ds = zs.map D.str
  | [], zs, e => by cases e; rfl
  | d :: ds, zs, e => by
    cases d with
    | str z =>
      obtain ⟨ys, h, rfl⟩ := Option.map_eq_some_iff.mp (show (strsD ds).map (z :: ·) = some zs from e)
      rw [strsD_eq h]; rfl
    | _ => cases e
theorem strsD_map : ∀ (zs : List Str), strsD (zs.map D.str) = some zs
  | [] => rfl
  | z :: zs => by show (strsD (zs.map D.str)).map (z :: ·) = _; rw [strsD_map zs]; rfl
def strsK : List Key → Option (List Str)
  | [] => some []
  | .inr z :: ks => (strsK ks).map (z :: ·)
  | _ => none
theorem strsK_eq : ∀ {ks : List Key} {zs : List Str}, strsK ks = some zs → ks = zs.map Sum.inr
  | [], zs, e => by cases e; rfl
  | k :: ks, zs, e => by
    cases k with
    | inr z =>
      obtain ⟨ys, h, rfl⟩ := Option.map_eq_some_iff.mp (show (strsK ks).map (z :: ·) = some zs from e)
      rw [strsK_eq h]; rfl
    | inl _ => cases e
def bSortL : List D → W D
  | [d] => ⟨fun h Q _ => ∃ zs : List Str, Items h d (zs.map D.str) ∧ (∀ xs, d ≠ .tup xs) ∧ zs.length < 64 ∧ ∀ (ys : List Str) (p : Addr), ys.Perm zs → sortedS ys = true → h p = none → Q (.ref p) (h.upd p (.lst (ys.map D.str))), fun g ⟨a, b, t, c, k⟩ => ⟨a, b, t, c, fun ys p h1 h2 h3 => g _ _ (k ys p h1 h2 h3)⟩⟩
  | _ => W.fail
theorem reps_strs {H : Hp} : ∀ {zs : List Str} {vs : List V}, Reps K H vs (zs.map D.str) → vs = zs.map V.str
  | [], _, r => by cases r; rfl
  | z :: zs, _, r => by
    cases r with
    | cons a b => rw [rep_str a, reps_strs b]; rfl
theorem s_sortL : SimL K EK (rSortedS K.K) bSortL := fun H h xs ds Q hr rp run => by
  match ds, rp, run with
  | [d], rp, ⟨zs, i, nt, hl, run⟩ =>
    obtain ⟨v, rfl, r1⟩ := reps1 rp
    obtain ⟨p, vs, ev, sv, rr⟩ : ∃ p vs, v = .ref p ∧ SqL K.K H p vs ∧ Reps K H vs (zs.map D.str) := by
      cases d with
      | cl ys => cases r1 with | cl s rr => have i' : zs.map D.str = ys := i; subst i'; exact ⟨_, _, rfl, s.list, rr⟩
      | ref a => obtain ⟨vs, hv, rr⟩ := hr a _ i; exact ⟨a, vs, rep_ref r1, SqL.of hv, rr⟩
      | tup ys => exact absurd rfl (nt ys)
      | _ => exact (show False from i).elim
    subst ev
    rw [reps_strs rr] at sv
    exact ⟨p, zs, rfl, sv, hl, fun ys q h1 h2 hq => run ys q h1 h2 (hr.none hq) _ _ (Ext.laid hq) (hr.laid hq ⟨_, upd_same, strs_reps ys⟩) (.ref q)⟩
def bSort2 (ds : List D) : W D := W.alt (W.alt (W.alt (bSortI ds) (bSortK ds)) (bSortS ds)) (bSortL ds)
@[reducible] def rSort2 (K : Gx) : List V → Hp → VK → Prop := fun xs H Q => ((rSortedSet K.w xs H Q ∨ ∃ (a : Addr) (kvs : List (Key × V)) (ks : List Str), xs = [.ref a] ∧ Rd H a (.dK kvs) ∧ kvs.map (·.1) = ks.map Sum.inr ∧ ks.length < 64 ∧
    ∀ ys p, ys.Perm ks → sortedS ys = true → H p = none → Q (.ref p) (L2.upd H p (.lst (ys.map V.str)))) ∨ rSortS K.w xs H Q) ∨ rSortedS K.K xs H Q
theorem cr_sort2 (hc : X.calm = true) : CallR X (.builtin "sorted") (rSort2 X.gx) := (((cr_sortedSet hc).or (call_sortedD hc)).or (cr_sortS hc)).or cr_sortedS
theorem s_sort2 : SimL K EK (rSort2 K) bSort2 := simL_alt (simL_alt (simL_alt s_sortI s_sortK) s_sortS) s_sortL
def sortOF : O → W D
  | .iset S n => ⟨fun h Q _ => n < 64 ∧ ∀ ns : List Int, ns.Pairwise (· < ·) → (∀ k : Int, k ∈ ns ↔ S k = true) → ns.length = n → Q (.cl (ns.map D.int)) h, fun g ⟨a, k⟩ => ⟨a, fun ns x y z => g _ _ (k ns x y z)⟩⟩
  | .dK kvs => ⟨fun h Q _ => ∃ zs, strsK (kvs.map (·.1)) = some zs ∧ zs.length < 64 ∧ Q (.cl ((sortS zs).map D.str)) h, fun g ⟨a, b, c, k⟩ => ⟨a, b, c, g _ _ k⟩⟩
  | .tset ks => ⟨fun h Q _ => ∃ zs, strsK ks = some zs ∧ Q (.cl ((sortS zs).map D.str)) h, fun g ⟨a, b, k⟩ => ⟨a, b, g _ _ k⟩⟩
  | .lst xs => ⟨fun h Q _ => ∃ zs, strsD xs = some zs ∧ zs.length < 64 ∧ Q (.cl ((sortS zs).map D.str)) h, fun g ⟨a, b, c, k⟩ => ⟨a, b, c, g _ _ k⟩⟩
  | _ => W.fail
def bSortF : List D → W D
  | [.cl xs] => ⟨fun h Q _ => ∃ zs, strsD xs = some zs ∧ zs.length < 64 ∧ Q (.cl ((sortS zs).map D.str)) h, fun g ⟨a, b, c, k⟩ => ⟨a, b, c, g _ _ k⟩⟩
  | [.dk ks ds] => ⟨fun h Q _ => ∃ zs, strsK ((ks.zip ds).map (·.1)) = some zs ∧ zs.length < 64 ∧ Q (.cl ((sortS zs).map D.str)) h, fun g ⟨a, b, c, k⟩ => ⟨a, b, c, g _ _ k⟩⟩
  | [.ref a] => atO a sortOF
  | _ => W.fail
theorem sortF_ok {h : DH} {ds : List D} {Q : D → DH → Prop} (q : (bSortF ds).run h Q EK) : ((bSort2 ds).bind frzQ).run h Q EK := by
  unfold bSortF at q
  split at q
  · obtain ⟨zs, e, hl, q⟩ := q
    have e' := strsD_eq e
    subst e'
    exact .inr ⟨zs, rfl, fun _ z => (nomatch z), hl, fun ys p h1 h2 hp => new_frz (by rw [sortS_eq h1 h2]; exact q) p hp⟩
  · obtain ⟨zs, e, hl, q⟩ := q
    exact .inl (.inl (.inr ⟨_, zs, rfl, strsK_eq e, hl, fun ys p h1 h2 hp => new_frz (by rw [sortS_eq h1 h2]; exact q) p hp⟩))
  · obtain ⟨o, ho, q⟩ := q
    cases o with
    | iset S n => obtain ⟨z, q⟩ := q; exact .inl (.inl (.inl ⟨S, n, ho, z, fun ns p h1 h2 h3 hp => new_frz (q ns h1 h2 h3) p hp⟩))
    | dK kvs => obtain ⟨zs, e, hl, q⟩ := q; exact .inl (.inl (.inr ⟨_, zs, ho, strsK_eq e, hl, fun ys p h1 h2 hp => new_frz (by rw [sortS_eq h1 h2]; exact q) p hp⟩))
    | tset ks => obtain ⟨zs, e, q⟩ := q; have e' := strsK_eq e; subst e'; exact .inl (.inr ⟨zs, ho, fun ys p h1 h2 hp => new_frz (by rw [sortS_eq h1 h2]; exact q) p hp⟩)
    | lst xs => obtain ⟨zs, e, hl, q⟩ := q; have e' := strsD_eq e; subst e'; exact .inr ⟨zs, ho, fun _ z => (nomatch z), hl, fun ys p h1 h2 hp => new_frz (by rw [sortS_eq h1 h2]; exact q) p hp⟩
    | _ => exact (show False from q).elim
  · exact q.elim
end
end DL
namespace DL
open PySem PySem.Spec L2

def kD : Key → D
  | .inl i => .int i
  | .inr z => .str z
theorem kD_rep {K : Gx} {H : Hp} (k : Key) : Rep K H (kV k) (kD k) := by
  cases k with
  | inl i => exact .int i
  | inr z => exact .str z
def iSeq2 : D → W Src
  | .tup xs => W.pure ⟨xs, fun _ => True⟩
  | .cl xs => W.pure ⟨xs, fun _ => True⟩
  | .str z => W.pure ⟨chars z, fun _ => True⟩
  | .dk ks _ => W.pure ⟨ks.map kD, fun _ => True⟩
  | .ref a => atO a fun o => match o with
    | .lst xs => W.pure ⟨xs, fun h => h a = some (.lst xs)⟩
    | _ => W.fail
  | _ => W.fail
section
variable {K : Gx} {H : Hp} {a : Addr}
theorem jsim_keys {o : Obj} {l : List (Key × V)} (e : H a = some (.frz o (.dK l))) : JSim K H (Itk a o l) ⟨(l.map (·.1)).map kD, fun _ => True⟩ := by
  have len : ((l.map (·.1)).map kD).length = l.length := by rw [List.length_map, List.length_map]
  refine ⟨fun i H1 h ex hr _ hi => ⟨ex.z _ _ _ e, by rw [← len]; exact hi⟩, fun i H1 h x H2 ex hr _ hi ⟨ey, k, v, hk, hx⟩ => ?_, fun i H1 h ex hr _ hi => ⟨ex.z _ _ _ e, by rw [← len]; exact Nat.le_of_eq hi.symm⟩⟩
  subst ey
  subst hx
  exact ⟨Ext.refl, hr, kD k, by simp [hk], kD_rep k⟩
end
section
variable {X : Cx} {tg : Expr}
def iRdy2 (K : PySem.W.Frag) (x : V) (H1 : Hp) (R : It → Hp → Prop) : Prop := iRdy K x H1 R ∨ ∃ d o kvs, x = .ref d ∧ H1 d = some (.frz o (.dK kvs)) ∧ R (Itk d o kvs) H1
theorem pi_rdy2 {e : Expr} {t : TE} (he : PE X e t) : PI X tg e (fun σ H R => t σ H fun x H1 => iRdy2 X.K x H1 R) := by
  refine ⟨fun pins s σ H R I hyp => thn (he.run pins s σ H _ I hyp) fun v s1 ⟨x, H1, I1, r, q⟩ => ?_⟩
  rcases q with q | ⟨d, o, kvs, rfl, hd, q⟩
  · exact rdy_run I1 r q
  · cases r
    obtain ⟨hs, hgd, hx, es, ep, vs, hdt, hsz, kv, hm⟩ := I1.frzK hd
    refine iter_keys hs hgd hx hdt (pi_one (tk := s1.toks) I1 _ (turn_keys _ hdt) ⟨_, Heap.get?_push_size _ rfl, rfl, ?_⟩ q)
    rw [hsz]; all_goals rfl
variable {EK : EKt} {r : Lo} {e : Expr} {m : W D}
theorem di_seq2 (he : DE X EK r e m) : DI X EK r tg e (m.bind iSeq2) :=
  ⟨pi_weak (pi_rdy2 he.pe) fun σ H R x => glueI x fun d h' v H' e hr rp l run => by
    unfold iSeq2 at run
    split at run
    · cases rp with | tup s rr => exact .inl (.inr (.inl ⟨_, rfl, ⟨_, s.1⟩, run _ H' Ext.refl hr (jsim_tup s.1 rr)⟩))
    · cases rp with | cl s rr => exact .inl (.inl ⟨_, rfl, ⟨_, s.list⟩, run _ H' Ext.refl hr (jsim_cl s rr)⟩)
    · exact .inl (.inr (.inr ⟨_, rep_str rp, run _ H' Ext.refl hr jsim_str⟩))
    · cases rp with | dk s q rr => subst q; exact .inr ⟨_, _, _, rfl, s, run _ H' Ext.refl hr (jsim_keys s)⟩
    · obtain ⟨o, ho, run⟩ := run
      cases o with
      | lst xs =>
        obtain ⟨vs, hv, rr⟩ := hr _ _ ho
        exact .inl (.inl ⟨_, rep_ref rp, ⟨vs, SqL.of hv⟩, run _ H' Ext.refl hr jsim_lst⟩)
      | _ => exact (show False from run).elim
    · exact run.elim⟩
end

theorem fng_forget {P : Program} {w : World} {K : PySem.W.Frag} {mg : Str → Option Value} {base : Heap} {k : Nat} {g : Addr} {fd : FuncData} {ps : List Str} {f : List D → W D} {n : Nat}
    (F : FnG P w K mg base CX0 k g fd ps (spF ⟨K, w, P, mg⟩ n f)) : FnG P w K mg base CX0 k g fd ps (spF ⟨K, w, P, mg⟩ n (fun ds => W.forget (f ds))) :=
  ⟨fun vs H Q E x => F.len vs H Q E (spF_forget x), fun A outer s H args us vs Q E h1 h2 h3 h4 h5 x => F.run A outer s H args us vs Q E h1 h2 h3 h4 h5 (spF_forget x)⟩
end DL
namespace DL
open PySem PySem.Spec L2
section
variable {X : Cx} {EK : EKt} {K : Gx} {r : Lo} {a b : Expr} {ma mb : W D} {pos : Pos}
theorem de_notT (ha : DE X EK r a ma) : DE X EK r (.UnaryOp .Not a pos) (vNotT ma) :=
  ⟨pe_weak (pe_notT ha.pe) fun σ H Q x => glue1 x fun d h' v H' e hr rp l ⟨k, t, run⟩ => ⟨k, truV_of hr rp t, run _ H' Ext.refl hr (.bl _)⟩⟩
end
theorem apG1 (f : D → W (Fl Unit Unit)) : ∀ ds : List D, ds.length = 1 → W.forget (fn (apB1 f ds)) = ap1 (fun a0 => W.forget (fn (f a0))) ds := fun ds h => match ds, h with | [_], _ => rfl
theorem apG2 (f : D → D → W (Fl Unit Unit)) : ∀ ds : List D, ds.length = 2 → W.forget (fn (apB2 f ds)) = ap2 (fun a0 a1 => W.forget (fn (f a0 a1))) ds := fun ds h => match ds, h with | [_, _], _ => rfl
theorem apG3 (f : D → D → D → W (Fl Unit Unit)) : ∀ ds : List D, ds.length = 3 → W.forget (fn (apB3 f ds)) = ap3 (fun a0 a1 a2 => W.forget (fn (f a0 a1 a2))) ds := fun ds h => match ds, h with | [_, _, _], _ => rfl
theorem apG4 (f : D → D → D → D → W (Fl Unit Unit)) : ∀ ds : List D, ds.length = 4 → W.forget (fn (apB4 f ds)) = ap4 (fun a0 a1 a2 a3 => W.forget (fn (f a0 a1 a2 a3))) ds := fun ds h => match ds, h with | [_, _, _, _], _ => rfl
end DL
namespace DL
open PySem PySem.Spec L2
inductive KdAll (K : PySem.W.Frag) (a : Addr) : List Str → List V → Prop
  | nil : KdAll K a [] []
  | cons {z : Str} {v : V} {u : Value} {zs : List Str} {vs : List V} : PySem.W.nsIn K a z = some (some u) → RelV v u → KdAll K a zs vs → KdAll K a (z :: zs) (v :: vs)
theorem KdAll.len {K : PySem.W.Frag} {a : Addr} : ∀ {zs : List Str} {vs : List V}, KdAll K a zs vs → zs.length = vs.length
  | _, _, .nil => rfl
  | _, _, .cons _ _ r => by rw [List.length_cons, List.length_cons, r.len]
theorem KdAll.at_ {K : PySem.W.Frag} {a : Addr} : ∀ {zs : List Str} {vs : List V} {i : Nat} {z : Str} {v : V}, KdAll K a zs vs → zs[i]? = some z → vs[i]? = some v → ∃ u, PySem.W.nsIn K a z = some (some u) ∧ RelV v u
  | _, _, i, z, v, .nil, e, _ => by simp at e
  | _, _, 0, z, v, .cons h r _, e, q => by simp at e q; subst e; subst q; exact ⟨_, h, r⟩
  | _, _, i + 1, z, v, .cons _ _ t, e, q => t.at_ (i := i) (by simpa using e) (by simpa using q)
section
variable {X : Cx} {EK : EKt} {r : Lo} {src : W Src} {p : Pat} {is : List Nat} {mt : List D → W Bool} {mk mv : List D → W D} {own : List (Str × Nat)} {tg iter kx vx : Expr} {ifs : List Expr} {scope : Scope} {pos spos : Pos} {L C : Type} {Jn : C → Lo} {Jl : L → Lo} {rest : List Stmt}
end
end DL
namespace DL
open PySem PySem.Spec L2 PyProof.Rows
def Fld (K : PySem.W.Frag) (mg : Str → Option Value) (n f : Str) : Prop := ∃ C, mg n = some (.ref C) ∧ Cls K C ∧ NoAttr K C f
def putFD (f : Str) (v : D) : List (Str × D) → List (Str × D)
  | [] => [(f, v)]
  | (g, x) :: r => if g = f then (g, v) :: r else (g, x) :: putFD f v r
section
variable {K : Gx} {H : Hp}
abbrev FldR (K : Gx) (H : Hp) (p : Str × V) (q : Str × D) : Prop := p.1 = q.1 ∧ Rep K H p.2 q.2
theorem fld_get {l : List (Str × V)} {fs : List (Str × D)} (r : Paired (FldR K H) l fs) {f : Str} {d : D} (e : fs.lookup f = some d) : ∃ v, l.lookup f = some v ∧ Rep K H v d := by
  induction r with
  | nil => cases e
  | @cons p q l fs h r ih =>
    obtain ⟨p1, p2⟩ := p
    obtain ⟨q1, q2⟩ := q
    obtain ⟨h1, h2⟩ := h
    have h1 : p1 = q1 := h1
    subst h1
    rw [List.lookup_cons] at e ⊢
    split at e
    · rename_i c
      cases e
      exact ⟨_, rfl, h2⟩
    · rename_i c
      exact ih e
theorem fld_none {l : List (Str × V)} {fs : List (Str × D)} (r : Paired (FldR K H) l fs) {f : Str} (e : fs.lookup f = none) : l.lookup f = none := by
  induction r with
  | nil => rfl
  | @cons p q l fs h r ih =>
    obtain ⟨p1, p2⟩ := p
    obtain ⟨q1, q2⟩ := q
    obtain ⟨h1, h2⟩ := h
    have h1 : p1 = q1 := h1
    subst h1
    rw [List.lookup_cons] at e ⊢
    split at e
    · cases e
    · rename_i c
      exact ih e
theorem fld_put {l : List (Str × V)} {fs : List (Str × D)} (r : Paired (FldR K H) l fs) {f : Str} {v : V} {d : D} (rv : Rep K H v d) : Paired (FldR K H) (putF f v l) (putFD f d fs) := by
  induction r with
  | nil => exact .cons ⟨rfl, rv⟩ .nil
  | @cons p q l fs h r ih =>
    obtain ⟨p1, p2⟩ := p
    obtain ⟨q1, q2⟩ := q
    obtain ⟨h1, h2⟩ := h
    have h1 : p1 = q1 := h1
    subst h1
    unfold putF putFD
    split
    · exact .cons ⟨rfl, rv⟩ r
    · exact .cons ⟨rfl, h2⟩ ih
theorem fld_len {l : List (Str × V)} {fs : List (Str × D)} (r : Paired (FldR K H) l fs) : l.length = fs.length := by
  induction r with
  | nil => rfl
  | cons h r ih => rw [List.length_cons, List.length_cons, ih]
theorem fld_mono {H' : Hp} {l : List (Str × V)} {fs : List (Str × D)} (r : Paired (FldR K H) l fs) (e : Ext K H H') : Paired (FldR K H') l fs := L2.Paired.mapP r fun _ _ ⟨a, f⟩ => ⟨a, f.mono e⟩
end
def fldO (ns : List Str) (f : Str) : O → W D
  | .ins n fs => ⟨fun h Q _ => n ∈ ns ∧ ∃ v, fs.lookup f = some v ∧ Q v h, fun g ⟨a, v, b, k⟩ => ⟨a, v, b, g _ _ k⟩⟩
  | _ => W.fail
def opFld (ns : List Str) (f : Str) : D → W D
  | .ref a => atO a (fldO ns f)
  | _ => W.fail
def setO (ns : List Str) (f : Str) (a : Addr) (v : D) : O → W Unit
  | .ins n fs => ⟨fun h Q _ => n ∈ ns ∧ fs.length < 1000 ∧ Q () (h.upd a (.ins n (putFD f v fs))), fun g ⟨a, b, k⟩ => ⟨a, b, g _ _ k⟩⟩
  | _ => W.fail
def stFld (ns : List Str) (f : Str) : D → D → W Unit
  | .ref a, v => atO a (setO ns f a v)
  | _, _ => W.fail
section
variable {X : Cx} {EK : EKt} {L C : Type} {Jn : C → Lo} {Jl : L → Lo} {r : Lo} {rest : List Stmt} {e o : Expr} {m mo : W D} {pos tpos : Pos} {ns : List Str} {f : Str}
theorem fldO_inv {ns : List Str} {f : Str} {u : O} {h : DH} {Q : D → DH → Prop} {E : EKt} (q : (fldO ns f u).run h Q E) : ∃ n fs v, u = .ins n fs ∧ n ∈ ns ∧ fs.lookup f = some v ∧ Q v h := by
  cases u with
  | ins n fs => obtain ⟨a, v, b, k⟩ := q; exact ⟨n, fs, v, rfl, a, b, k⟩
  | _ => exact q.elim
theorem setO_inv {ns : List Str} {f : Str} {a : Addr} {v : D} {u : O} {h : DH} {Q : Unit → DH → Prop} {E : EKt} (q : (setO ns f a v u).run h Q E) : ∃ n fs, u = .ins n fs ∧ n ∈ ns ∧ fs.length < 1000 ∧ Q () (h.upd a (.ins n (putFD f v fs))) := by
  cases u with
  | ins n fs => obtain ⟨a, b, k⟩ := q; exact ⟨n, fs, rfl, a, b, k⟩
  | _ => exact q.elim
theorem de_fld (he : DE X EK r e m) (hf : ∀ n ∈ ns, Fld X.K X.mg n f) (hb : attributeBase e f X.env (eval e X.env) = eval e X.env := by rfl) : DE X EK r (.Attribute e f pos) (m.bind (opFld ns f)) :=
  ⟨pe_weak (pe_fld he.pe hb) fun σ H Q x => glue1 x fun d h' v H' e hr rp l run => by
    cases d with
    | ref a =>
      obtain ⟨u, hu, q⟩ := run
      obtain ⟨n, fs, w, rfl, hn, hw, q⟩ := fldO_inv q
      obtain ⟨C, dx, l0, hm, hH, pr⟩ := hr a _ hu
      obtain ⟨C', hm', hc, hna⟩ := hf n hn
      have hm0 : X.mg n = some (.ref C) := hm
      rw [hm0] at hm'
      cases hm'
      obtain ⟨z, hz, rz⟩ := fld_get pr hw
      exact ⟨a, C, dx, l0, z, rep_ref rp, hH, hc, hna, hz, q z H' Ext.refl hr rz⟩
    | _ => exact run.elim⟩
theorem wrote_ins {K : Gx} {H : Hp} {h : DH} {a C dx : Addr} {n : Str} {l : List (Str × V)} {fs : List (Str × D)} {f : Str} {v : V} {d : D} (hr : HRel K H h) (hm : K.mg n = some (.ref C)) (hH : H a = some (.ins C dx l)) (pr : Paired (FldR K H) l fs) (rv : Rep K H v d) :
    Ext K H (L2.upd H a (.ins C dx (putF f v l))) ∧ HRel K (L2.upd H a (.ins C dx (putF f v l))) (h.upd a (.ins n (putFD f d fs))) := by
  have e : Ext K H (L2.upd H a (.ins C dx (putF f v l))) := Ext.wrote hH (fun _ z => by cases z) (fun _ _ z => by cases z)
  exact ⟨e, hr.wrote hH (fun _ z => by cases z) (fun _ _ z => by cases z) ⟨C, dx, _, hm, upd_same, fld_put (fld_mono pr e) (rv.mono e)⟩⟩
theorem db_fld {k : W (Fl L C)} (hf : ∀ n ∈ ns, Fld X.K X.mg n f) (he : DE X EK r e m) (ho : DE X EK r o mo) (h2 : DB X EK Jn Jl r rest k)
    (hs : swapsWith e (some (.Attribute o f tpos)) pos.line X.env = pure false := by rfl) :
    DB X EK Jn Jl r (.Assign [.Attribute o f tpos] e pos :: rest) (m.bind fun v => mo.bind fun x => (stFld ns f x v).bind fun _ => k) := by
  refine ⟨pss_weak (pss_cons (ps_fld ho.pe he.pe hs) h2.ps) ?_⟩
  rintro D σ H ⟨h, l, hr, run⟩
  refine ⟨h, l, hr, m.mono (fun d h' q v H1 e1 hr1 rp1 => ?_) run⟩
  refine ⟨h', l.mono e1, hr1, mo.mono (fun x h2 q2 v2 H2 e2 hr2 rp2 => ?_) q⟩
  cases x with
  | ref a =>
    obtain ⟨u, hu, q3⟩ := q2
    obtain ⟨n, fs, rfl, hn, hl, q3⟩ := setO_inv q3
    obtain ⟨C, dx, l0, hm, hH, pr⟩ := hr2 a _ hu
    obtain ⟨C', hm', hc, hna⟩ := hf n hn
    have hm0 : X.mg n = some (.ref C) := hm
    rw [hm0] at hm'
    cases hm'
    obtain ⟨e3, hr3⟩ := wrote_ins (f := f) hr2 hm hH pr (rp1.mono e2)
    exact ⟨a, C, dx, l0, rep_ref rp2, hH, hc, hna, by rw [fld_len pr]; exact hl, _, ((l.mono e1).mono e2).mono e3, hr3, k.mono (fun fl h5 q5 σ5 H5 e5 hr5 => q5 σ5 H5 (e1.trans (e2.trans (e3.trans e5))) hr5) q3⟩
  | _ => exact q2.elim
end
end DL
namespace DL
open PySem PySem.Spec L2 PyProof.Rows
def MethF (K : PySem.W.Frag) (mg : Str → Option Value) (n m : Str) (g : Addr) : Prop := ∃ C, mg n = some (.ref C) ∧ Cls K C ∧ Meth K C m g
def PropF (K : PySem.W.Frag) (mg : Str → Option Value) (n f : Str) (g : Addr) : Prop := ∃ C p, mg n = some (.ref C) ∧ Cls K C ∧ PropOf K C f p g
def MakeF (K : PySem.W.Frag) (mg : Str → Option Value) (n : Str) (g : Addr) : Prop := ∃ C, mg n = some (.ref C) ∧ Mk K C g
def isO (n m : Str) : O → W Unit
  | .ins k fs => ⟨fun h Q _ => k = n ∧ fs.lookup m = none ∧ Q () h, fun g ⟨a, b, k⟩ => ⟨a, b, g _ _ k⟩⟩
  | _ => W.fail
def isIns (n m : Str) : D → W Unit
  | .ref a => atO a (isO n m)
  | _ => W.fail
def beO (n : Str) : O → W Unit
  | .ins k fs => ⟨fun h Q _ => k = n ∧ Q () h, fun g ⟨a, k⟩ => ⟨a, g _ _ k⟩⟩
  | _ => W.fail
def beIns (n : Str) : D → W Unit
  | .ref a => atO a (beO n)
  | _ => W.fail
@[reducible] def eMethC (n m : Str) (f : List D → W D) (mo : W D) (ms : List (W D)) : W D := mo.bind fun x => (isIns n m x).bind fun _ => (eArgs ms).bind fun ds => f (x :: ds)
@[reducible] def eProp (n : Str) (f : List D → W D) (mo : W D) : W D := mo.bind fun x => (beIns n x).bind fun _ => f [x]
def onlyNon : D → D → W D
  | .non, x => W.pure x
  | _, _ => W.fail
@[reducible] def eMake (n : Str) (f : List D → W D) (ms : List (W D)) : W D := (eArgs ms).bind fun ds => (W.new (.ins n [])).bind fun x => (f (x :: ds)).bind fun u => onlyNon u x
theorem isO_inv {n m : Str} {u : O} {h : DH} {Q : Unit → DH → Prop} {E : EKt} (q : (isO n m u).run h Q E) : ∃ fs, u = .ins n fs ∧ fs.lookup m = none ∧ Q () h := by
  cases u with
  | ins k fs => obtain ⟨rfl, b, k⟩ := q; exact ⟨fs, rfl, b, k⟩
  | _ => exact q.elim
theorem beO_inv {n : Str} {u : O} {h : DH} {Q : Unit → DH → Prop} {E : EKt} (q : (beO n u).run h Q E) : ∃ fs, u = .ins n fs ∧ Q () h := by
  cases u with
  | ins k fs => obtain ⟨rfl, k⟩ := q; exact ⟨fs, rfl, k⟩
  | _ => exact q.elim
section
variable {X : Cx} {CX : CXT} {k : Nat} {g C p a dx : Addr} {fd : FuncData} {ps : List Str} {sp : Sp} {E : XK} {m f : Str} {pos apos : Pos} {e o : Expr} {es : List Expr} {ta : TE} {t : TA} {fs : List (Str × V)} {dvs : List V} {ds : List Value}
theorem pe_methG {pl : Sem Bool} (he : PE X o ta) (c : Cls X.K C) (hm : Meth X.K C m g) (F : FnG X.prog X.w X.K X.mg X.base CX k g fd ps sp) (hgd : X.A.guards = some []) (hr : Room k X.A) (hb : Binds X.K fd ps ds) (hd : Vals dvs ds) (hx : Passes CX X E)
    (ha : PA X (e :: es) t) (hst : starEach (e :: es) X.env = (false, eval e X.env) :: starEach es X.env) (hpl : (backTo pos (starEach es X.env)).any (·.1) = false)
    (ht : eval (.Call (.Attribute o m apos) (e :: es) [] pos) X.env = (do
      let ov ← eval o X.env; standAt apos.atName; let (f, first) ← holding [ov] (getMethod ov m pl)
      callWith pos f first (backTo pos (starEach (e :: es) X.env)) (backToKw pos (keywordEach [] X.env)))) : PE X (.Call (.Attribute o m apos) (e :: es) [] pos) (tMeth C m sp dvs E ta t) :=
  ⟨fun pins s σ H Q I h => PySem.W.methodCall_KW (pl := pl) (thn (he.run pins s σ H _ I h) fun u s1 ⟨x, H1, I1, rx, a, dx, fs, ex, ea, l, q⟩ => by
    subst ex
    cases (show u = Value.ref a from rx)
    exact getmeth_ok I1 ea c hm l (PySem.W.callWith_K (first := [.ref a]) (h₀ := X.base) I.ok.mod.kin hm.kp (thn (ha.run pos pins s1 σ H1 _ I1 q) fun us s2 ⟨vs, H2, I2, r, q2⟩ => ⟨I2.kIn, run_g (us := .ref a :: us) (vs := .ref a :: vs) F hgd hr hb hd hx I2 (.cons rfl r) q2⟩) hst hpl)) ht⟩
theorem getprop_g {pins : List (Addr × Obj)} {σ : L2.St} {H : Hp} {s : Shared} {Q : VK} {b : Bool} {E' : Value → Shared → Prop} (I : Inv X pins σ H s) (ea : H a = some (.ins C dx fs)) (c : Cls X.K C) (hp : PropOf X.K C f p g)
    (F : FnG X.prog X.w X.K X.mg X.base CX k g fd ps sp) (hgd : X.A.guards = some []) (hr : Room (k + 1) X.A) (hb : Binds X.K fd ps ds) (hd : Vals dvs ds) (hx : Passes CX X.nox E) (h : sp (.ref a :: dvs) H Q E) : wpAny (model X.prog X.w) X.A (getAttr (.ref a) f b) (EP X pins σ Q) E' s := by
  obtain ⟨mA, O, _⟩ := ins_get I.hok ea
  obtain ⟨od, J, _⟩ := O.look
  obtain ⟨rest, hrec⟩ := hp.rec_
  have I1 := I.tok (s.toks + 1)
  have e1 := F.len _ _ _ _ h
  have hl : ([Value.ref a] ++ ds).length = ps.length := by
    rw [← e1, List.length_append, List.length_cons, ← hd.length]
    exact Nat.add_comm _ _
  have hc : (PySem.W.clsIn X.K C).isSome = true := by
    obtain ⟨cd, z, _⟩ := PySem.W.any_some c.hd
    rw [z]; rfl
  refine PySem.W.get_bind I.kIn J (PySem.W.plainGet_of (c.get f)).1 (PySem.W.findObj_data hc hp.at_ hp.get hp.tak) (PySem.W.plainGet_of (c.get f)).2 (wpAny_call (PySem.W.prop_get (s := { s with toks := s.toks + 1 }) I.kIn hrec ?_))
  refine codeAny_mono (F.run X.A.in1 X.stack { s with toks := s.toks + 1 } H ⟨[.ref a], []⟩ (.ref a :: ds) (.ref a :: dvs) Q E hgd hr.in1 I1.env0.in1 (hb _ [.ref a] I1.kIn hl) (.cons rfl hd) h) fun r s' hq => ?_
  match r, hq with
  | .error er, hq => exact (hx pins σ H { s with toks := s.toks + 1 } er s' (I1.wish _) hq).elim
  | .ok (.ret u), hq =>
    obtain ⟨v, H', I3, rv, q3⟩ := I1.after hq
    show wpAny _ _ (handedOut u) _ _ _
    rw [PySem.W.handedOut_of (handed_of rv)]
    exact wpAny_pure ⟨v, H', I3, rv, q3⟩
theorem pe_propG (he : PE X e ta) (c : Cls X.K C) (hp : PropOf X.K C f p g) (F : FnG X.prog X.w X.K X.mg X.base CX k g fd ps sp) (hgd : X.A.guards = some []) (hr : Room (k + 1) X.A) (hb : Binds X.K fd ps ds) (hd : Vals dvs ds) (hx : Passes CX X.nox E)
    (hab : attributeBase e f X.env (eval e X.env) = eval e X.env) : PE X (.Attribute e f pos) (tProp C sp dvs E ta) :=
  ⟨fun pins s σ H Q I h => attr_of hab (thn (he.run pins s σ H _ I h) fun u s1 ⟨x, H1, I1, rx, a, dx, fs, ex, ea, q⟩ => by
    subst ex
    cases (show u = Value.ref a from rx)
    exact getprop_g I1 ea c hp F hgd hr hb hd hx q)⟩
theorem run_makeG {pins : List (Addr × Obj)} {σ : L2.St} {H : Hp} {s : Shared} {Q : VK} {us : List Value} {vs : List V} (M : Mk X.K C g) (F : FnG X.prog X.w X.K X.mg X.base CX k g fd ps sp) (hgd : X.A.guards = some []) (hr : Room (k + 1) X.A) (hb : Binds X.K fd ps ds) (hd : Vals dvs ds)
    (hx : Passes CX X E) (I : Inv X pins σ H s) (r : Vals vs us) (h : ∀ x dx, H x = none → H dx = none → dx ≠ x → sp (.ref x :: (vs ++ dvs)) (L2.upd (L2.upd H dx (.own x)) x (.ins C dx [])) (fun v H2 => v = .non ∧ Q (.ref x) H2) E) :
    wpAny (model X.prog X.w) X.A (call (.ref C) us) (EP X pins σ Q) X.xe s := by
  have hq := h (s.heap.objs.size + 1) s.heap.objs.size (I.hok.fresh (Nat.le_succ _)) (I.hok.fresh (Nat.le_refl _)) (Nat.ne_of_lt (Nat.lt_succ_self _))
  have I2 := Inv.made (C := C) I
  have r2 : Vals (V.ref (s.heap.objs.size + 1) :: (vs ++ dvs)) (Value.ref (s.heap.objs.size + 1) :: (us ++ ds)) := .cons rfl (r.append hd)
  have hl : (Value.ref (s.heap.objs.size + 1) :: us ++ ds).length = ps.length := by
    rw [← F.len _ _ _ _ hq]
    exact r2.length.symm
  refine wpAny_call (make_map (f := g) I.kIn M.makes M.init (beq_iff_eq.mp M.fn) (codeAny_mono (F.run _ X.stack _ _ ⟨Value.ref (s.heap.objs.size + 1) :: us, []⟩ (Value.ref (s.heap.objs.size + 1) :: (us ++ ds)) _ _ E hgd (hr.make C us [])
    (I2.env0.make C us []) (hb _ (Value.ref (s.heap.objs.size + 1) :: us) I2.kIn hl) r2 hq) fun r s' hq' => ?_))
  match r, hq' with
  | .error e, hq' => exact hx pins σ _ _ e s' I2 hq'
  | .ok (.ret u), hq' =>
    obtain ⟨v, H', I3, rv, ev, q3⟩ := I2.after hq'
    subst ev
    exact ⟨rv, ⟨V.ref (s.heap.objs.size + 1), H', I3, rfl, q3⟩⟩
end
section
variable {X : Cx} {r : Lo} {k : Nat} {g : Addr} {fd : FuncData} {ps : List Str} {m f n : Str} {pos apos : Pos} {e o : Expr} {es : List Expr} {mo : W D} {ms : List (W D)} {fn : List D → W D} {c : Nat}
theorem is_there {K : Gx} {H : Hp} {h : DH} {v : V} {d : D} {Q : Unit → DH → Prop} {E : EKt} (hr : HRel K H h) (rp : Rep K H v d) (run : (isIns n m d).run h Q E) : ∃ a C dx fs, v = .ref a ∧ K.mg n = some (.ref C) ∧ H a = some (.ins C dx fs) ∧ fs.lookup m = none ∧ Q () h := by
  cases d with
  | ref a =>
    obtain ⟨u, hu, q⟩ := run
    obtain ⟨fs, rfl, hl, q⟩ := isO_inv q
    obtain ⟨C, dx, l0, hm, hH, pr⟩ := hr a _ hu
    exact ⟨a, C, dx, l0, rep_ref rp, hm, hH, fld_none pr hl, q⟩
  | _ => exact run.elim
theorem be_there {K : Gx} {H : Hp} {h : DH} {v : V} {d : D} {Q : Unit → DH → Prop} {E : EKt} (hr : HRel K H h) (rp : Rep K H v d) (run : (beIns n d).run h Q E) : ∃ a C dx fs, v = .ref a ∧ K.mg n = some (.ref C) ∧ H a = some (.ins C dx fs) ∧ Q () h := by
  cases d with
  | ref a =>
    obtain ⟨u, hu, q⟩ := run
    obtain ⟨fs, rfl, q9⟩ := beO_inv q
    obtain ⟨C, dx, l0, hm, hH, pr⟩ := hr a _ hu
    exact ⟨a, C, dx, l0, rep_ref rp, hm, hH, q9⟩
  | _ => exact run.elim
theorem de_methC {pl : Sem Bool} (hm : MethF X.K X.mg n m g) (he : DE X EK0 r o mo) (F : FnG X.prog X.w X.K X.mg X.base CX0 k g fd ps (spF X.gx c fn)) (hgd : X.A.guards = some []) (hr : Room k X.A) (hb : Binds X.K fd ps []) (ha : DA X EK0 r (e :: es) ms) (hl : ms.length + 1 = c := by rfl)
    (hst : starEach (e :: es) X.env = (false, eval e X.env) :: starEach es X.env := by rfl) (hpl : (backTo pos (starEach es X.env)).any (·.1) = false := by rfl)
    (ht : eval (.Call (.Attribute o m apos) (e :: es) [] pos) X.env = (do
      let ov ← eval o X.env; standAt apos.atName; let (f, first) ← holding [ov] (getMethod ov m pl)
      callWith pos f first (backTo pos (starEach (e :: es) X.env)) (backToKw pos (keywordEach [] X.env))) := by rfl) :
    DE X EK0 r (.Call (.Attribute o m apos) (e :: es) [] pos) (eMethC n m fn mo ms) := by
  obtain ⟨C, hm0, hc, hmm⟩ := hm
  refine ⟨pe_weak (pe_methG he.pe hc hmm F hgd hr hb .nil pass0 ha.pa hst hpl ht) ?_⟩
  intro σ H Q ⟨h, l, hh, run⟩
  refine ⟨h, l, hh, mo.mono (fun x h1 q v H1 e1 hr1 rp1 => ?_) run⟩
  obtain ⟨a, C', dx, fs, rfl, hm1, hH, hn, q⟩ := is_there hr1 rp1 q
  have hm2 : X.mg n = some (.ref C') := hm1
  rw [hm0] at hm2
  cases hm2
  refine ⟨a, dx, fs, rfl, hH, hn, h1, l.mono e1, hr1, (eArgs ms).mono (fun ds h2 ⟨hds, q2⟩ vs H2 e2 hr2 rp2 => ?_) (eArgs_len ms q)⟩
  show spF X.gx c fn (.ref a :: (vs ++ [])) H2 Q E0
  rw [List.append_nil]
  exact ⟨x :: ds, h2, by rw [List.length_cons, hds]; exact hl, .cons (rp1.mono e2) rp2, hr2, (fn _).mono (fun d h3 q3 v H3 e3 hr3 rp3 => q3 v H3 (e1.trans (e2.trans e3)) hr3 rp3) q2⟩
theorem de_prop (hp : PropF X.K X.mg n f g) (he : DE X EK0 r e mo) (F : FnG X.prog X.w X.K X.mg X.base CX0 k g fd ps (spF X.gx 1 fn)) (hgd : X.A.guards = some []) (hr : Room (k + 1) X.A) (hb : Binds X.K fd ps [])
    (hab : attributeBase e f X.env (eval e X.env) = eval e X.env := by rfl) : DE X EK0 r (.Attribute e f pos) (eProp n fn mo) := by
  obtain ⟨C, p, hm0, hc, hpp⟩ := hp
  refine ⟨pe_weak (pe_propG he.pe hc hpp F hgd hr hb .nil pass0 hab) ?_⟩
  intro σ H Q ⟨h, l, hh, run⟩
  refine ⟨h, l, hh, mo.mono (fun x h1 q v H1 e1 hr1 rp1 => ?_) run⟩
  obtain ⟨a, C', dx, fs, rfl, hm1, hH, q⟩ := be_there hr1 rp1 q
  have hm2 : X.mg n = some (.ref C') := hm1
  rw [hm0] at hm2
  cases hm2
  exact ⟨a, dx, fs, rfl, hH, [x], h1, rfl, .cons rp1 .nil, hr1, (fn _).mono (fun d h3 q3 v H3 e3 hr3 rp3 => q3 v H3 (e1.trans e3) hr3 rp3) q⟩
theorem laid_ins {K : Gx} {H : Hp} {h : DH} {x dx C : Addr} (hr : HRel K H h) (hm : K.mg n = some (.ref C)) (nx : H x = none) (nd : H dx = none) (ne : dx ≠ x) :
    h x = none ∧ Ext K H (L2.upd (L2.upd H dx (.own x)) x (.ins C dx [])) ∧ HRel K (L2.upd (L2.upd H dx (.own x)) x (.ins C dx [])) (h.upd x (.ins n [])) := by
  have n2 : (L2.upd H dx (.own x)) x = none := by rw [upd_ne (Ne.symm ne)]; exact nx
  exact ⟨hr.none nx, (Ext.laid nd).trans (Ext.laid n2), (hr.under nd).laid n2 ⟨C, dx, [], hm, upd_same, .nil⟩⟩
theorem onlyNon_inv {u x : D} {h : DH} {Q : D → DH → Prop} {E : EKt} (q : (onlyNon u x).run h Q E) : u = .non ∧ Q x h := by
  cases u with
  | non => exact ⟨rfl, q⟩
  | _ => exact q.elim
theorem pe_makeG {x0 : Str} {p0 : Pos} {CX : CXT} {E : XK} {sp : Sp} {dvs : List V} {ds : List Value} {C : Addr} {t : TA} (M : Mk X.K C g) (F : FnG X.prog X.w X.K X.mg X.base CX k g fd ps sp) (hgd : X.A.guards = some []) (hr : Room (k + 1) X.A) (hg : Gl X x0) (hm : X.mg x0 = some (.ref C))
    (hb : Binds X.K fd ps ds) (hd : Vals dvs ds) (hx : Passes CX X E) (ha : PA X (e :: es) t) (hdb : (x0 == ("__debug__" : Str)) = false) (he : starEach (e :: es) X.env = (false, eval e X.env) :: starEach es X.env) (hpl : (backTo pos (starEach es X.env)).any (·.1) = false) :
    PE X (.Call (.Name x0 p0) (e :: es) [] pos) (tMake C sp dvs E t) :=
  ⟨fun pins s σ H Q I h => wpAny_Call_Name_kw (ld_glob I hg hm (PySem.W.callWith_K (h₀ := X.base) I.ok.mod.kin M.kp (thn (ha.run pos pins s σ H _ I h) fun us s1 ⟨vs, H1, I1, r, q⟩ => ⟨I1.kIn, run_makeG M F hgd hr hb hd hx I1 r q⟩) he hpl) hdb)⟩
theorem de_make {x0 : Str} {p0 : Pos} (M : MakeF X.K X.mg x0 g) (F : FnG X.prog X.w X.K X.mg X.base CX0 k g fd ps (spF X.gx c fn)) (hgd : X.A.guards = some []) (hr : Room (k + 1) X.A) (hg : Gl X x0) (hb : Binds X.K fd ps []) (ha : DA X EK0 r (e :: es) ms) (hl : ms.length + 1 = c := by rfl)
    (hdb : (x0 == ("__debug__" : Str)) = false := by decide +kernel) (he : starEach (e :: es) X.env = (false, eval e X.env) :: starEach es X.env := by rfl) (hpl : (backTo pos (starEach es X.env)).any (·.1) = false := by rfl) :
    DE X EK0 r (.Call (.Name x0 p0) (e :: es) [] pos) (eMake x0 fn ms) := by
  obtain ⟨C, hm, M⟩ := M
  refine ⟨pe_weak (pe_makeG M F hgd hr hg hm hb .nil pass0 ha.pa hdb he hpl) fun σ H Q y => glueA y fun ds h' vs H' e0 hh rp l hds run => ?_⟩
  intro x dx nx nd ne
  obtain ⟨h0, e1, hr1⟩ := laid_ins (n := x0) hh hm nx nd ne
  show spF X.gx c fn (.ref x :: (vs ++ [])) _ _ E0
  rw [List.append_nil]
  refine ⟨.ref x :: ds, _, by rw [List.length_cons, hds]; exact hl, .cons (.ref x) (rp.mono e1), hr1, (fn _).mono (fun d h3 q3 v H3 e3 hr3 rp3 => ?_) (run x h0)⟩
  obtain ⟨rfl, q4⟩ := onlyNon_inv q3
  cases rp3
  exact ⟨rfl, q4 _ H3 (e1.trans e3) hr3 (.ref x)⟩
end
end DL
namespace DL
open PySem PySem.Spec L2 PyProof.Rows
section
variable {X : Cx} {r : Lo} {k : Nat} {g : Addr} {fd : FuncData} {ps kn : List Str} {m f n x0 : Str} {pos apos p0 : Pos} {e o : Expr} {es : List Expr} {kws : List Keyword} {mo : W D} {ms ks : List (W D)} {fn oo : List D → W D} {c np : Nat} {gi : List Nat}
end
section
variable {X : Cx} {EK : EKt} {L C : Type} {Jn : C → Lo} {Jl : L → Lo} {r : Lo} {rest : List Stmt} {o e : Expr} {mo m : W D} {pos tpos : Pos} {ns : List Str} {f : Str}
end
end DL
namespace DL
open PySem PySem.Spec L2 PyProof.Rows
section
variable {X : Cx} {r : Lo} {k i c : Nat} {x : Str} {p pos : Pos} {e : Expr} {es : List Expr} {ms : List (W D)} {tab : List (Str × (List D → W D))} {d : D}
end
end DL
namespace DL
open PySem PySem.Spec L2 PyProof.Rows
section
variable {X : Cx} {EK : EKt} {K : Gx} {r : Lo} {a b c e : Expr} {ma mb mc m : W D} {pos : Pos}
def pairsD : List D → Option (List (Key × D))
  | [] => some []
  | .tup [k, v] :: r => match keyD k, pairsD r with
    | some k, some l => some ((k, v) :: l)
    | _, _ => none
  | _ :: _ => none
def bDict : List D → W D
  | [d] => ⟨fun h Q _ => ∃ xs kvs, LstI h d xs ∧ pairsD xs = some kvs ∧ ∀ p, h p = none → Q (.ref p) (h.upd p (.dK (mergeD [] kvs))), fun g ⟨xs, l, i, e, k⟩ => ⟨xs, l, i, e, fun p hp => g _ _ (k p hp)⟩⟩
  | _ => W.fail
theorem pairs_V {K : Gx} {H : Hp} : ∀ {xs : List D} {vs : List V} {kvs : List (Key × D)}, Reps K H vs xs → pairsD xs = some kvs → ∃ (ps : List Addr) (l : List (Key × V)), vs = ps.map V.ref ∧ Paired (fun p kv => SqT K.K H p [kV kv.1, kv.2]) ps l ∧ Paired (EntK K H) l kvs
  | [], _, _, .nil, e => by
    cases e
    exact ⟨[], [], rfl, .nil, .nil⟩
  | x :: xs, _, kvs, .cons (v := v) (vs := vs) r1 rr, e => by
    match x, r1, e with
    | .tup [k, w], r1, e =>
      simp only [pairsD] at e
      split at e
      · rename_i k' l' hk hl
        cases e
        obtain ⟨ps, l, rfl, h1, h2⟩ := pairs_V rr hl
        cases r1 with
        | @tup p us _ s ru =>
          obtain ⟨u1, u2, rfl, ra, rb⟩ := reps2 ru
          have := keyD_V ra hk
          subst this
          exact ⟨p :: ps, (k', u2) :: l, rfl, .cons s.1 h1, .cons ⟨rfl, rb⟩ h2⟩
      · cases e
    | .tup [], _, e => simp [pairsD] at e
    | .tup [_], _, e => simp [pairsD] at e
    | .tup (_ :: _ :: _ :: _), _, e => simp [pairsD] at e
    | .non, _, e => simp [pairsD] at e
    | .bl _, _, e => simp [pairsD] at e
    | .int _, _, e => simp [pairsD] at e
    | .str _, _, e => simp [pairsD] at e
    | .cl _, _, e => simp [pairsD] at e
    | .cd _ _, _, e => simp [pairsD] at e
    | .dk _ _, _, e => simp [pairsD] at e
    | .ty _, _, e => simp [pairsD] at e
    | .gl _, _, e => simp [pairsD] at e
    | .ref _, _, e => simp [pairsD] at e
def rDictP (K : PySem.W.Frag) : List V → Hp → VK → Prop := fun xs H Q => ∃ (a : Addr) (ps : List Addr) (kvs : List (Key × V)), xs = [.ref a] ∧ SqL K H a (ps.map V.ref) ∧ Paired (fun p kv => SqT K H p [kV kv.1, kv.2]) ps kvs ∧ ∀ p, H p = none → Q (.ref p) (L2.upd H p (.dK (mergeK [] kvs)))
theorem s_dict : SimL K EK (rDictP K.K) bDict := fun H h xs ds Q hr rp run => by
  match ds, rp, run with
  | [d], rp, ⟨zs, kvs, i, e, run⟩ =>
    obtain ⟨v, rfl, rv⟩ := reps1 rp
    obtain ⟨p, vs, rfl, sq, rr⟩ := i.rep hr rv
    obtain ⟨ps, l, rfl, h1, h2⟩ := pairs_V rr e
    refine ⟨p, ps, l, rfl, sq.list, h1, fun q hq => run q (hr.none hq) _ _ (Ext.laid hq) (hr.laid hq ⟨_, upd_same, ?_⟩) (.ref q)⟩
    exact ent_mono (merge_rel h2 .nil) (Ext.laid hq)
def rGetCd (K : PySem.W.Frag) (w : World) : V → List V → Hp → VK → Prop := fun x xs H Q => ∃ (p : Addr) (z : Str) (o : Option V) (es : Array DictEntry) (n : Nat), x = .ref p ∧ KDict K w p es n ∧
  ((∃ v u, o = some v ∧ PySem.W.nsIn K p z = some (some u) ∧ RelV v u) ∨ (o = none ∧ PySem.W.nsIn K p z = some none)) ∧ ((xs = [.str z] ∧ Q (o.getD .non) H) ∨ ∃ f, xs = [.str z, f] ∧ Q (o.getD f) H)
theorem mt_getCd : MtR X "dict.get" (rGetCd X.K X.w) := by
  intro pins s σ H x xs v us Q I rx rxs hyp
  obtain ⟨p, z, o, es, n, rfl, kd, ho, q⟩ := hyp
  cases rx
  have low : (p == sysModules) = false := kd.low
  have val : ∃ (g : Str → Option Value), s.heap.MapOf (strKind X.prog X.w) p g ∧ ∀ {d : V} {u : Value}, RelV d u → RelV (o.getD d) ((g z).getD u) := by
    refine ⟨_, PySem.W.mapOf_K (prog := X.prog) (w := X.w) I.kIn kd.at_ kd.lit, fun {d u} rd => ?_⟩
    rcases ho with ⟨v, u', rfl, hn, rv⟩ | ⟨rfl, hn⟩
    · rw [PySem.W.find_K kd.at_ hn]; exact rv
    · rw [PySem.W.find_K kd.at_ hn]; exact rd
  obtain ⟨g, hm, val⟩ := val
  rcases q with ⟨rfl, q⟩ | ⟨f, rfl, q⟩
  · obtain ⟨u, rfl, ru⟩ := vals1 rxs
    obtain ⟨t, rfl⟩ := ru
    exact call_meetsIn PySem.F.slot_dict_get hm.typeIs PySem.F.entry_dict_get (PySem.F.args_dict_get_2 _ _) (meets_dict_get (strKind X.prog X.w) p (strKind_is X.prog X.w z t) low) ⟨_, hm, _, H, I.tok _, val (d := .non) (u := .none) rfl, q⟩
  · obtain ⟨u, w, rfl, ru, rw'⟩ := vals2 rxs
    obtain ⟨t, rfl⟩ := ru
    exact call_meetsIn PySem.F.slot_dict_get hm.typeIs PySem.F.entry_dict_get (PySem.F.args_dict_get_3 _ _ _) (meets_dict_get_default (strKind X.prog X.w) p (strKind_is X.prog X.w z t) low _) ⟨_, hm, _, H, I.tok _, val rw', q⟩
end
end DL
namespace DL
open PySem PySem.Spec L2 PyProof.Rows
theorem tuple_mul1 (l : Addr) (items : Array Value) (n : Nat) (dd : Option Addr) (sl : Array (Option Value)) (u : Tok) :
    Meets (Builtin.«tuple.__mul__» ⟨[.ref l, .int 1 u], []⟩) (fun _ R s => s.heap.get? l = some { cls := .type "tuple", dict := dd, data := .seq items n, slots := sl } ∧ R (.ok (.ret (Value.ref l))) s) :=
  .of_wp fun prog w A R s h => by
    obtain ⟨hp, g, d, tk, os⟩ := s
    obtain ⟨hl, h⟩ := h
    have f1 := AutoSeq1.idx_int
    wp_walk using wpAny_loadPart' hl
    exact ⟨_, rfl, h⟩
theorem tuple_mul0 (l : Addr) (items : Array Value) (n : Nat) (dd : Option Addr) (sl : Array (Option Value)) (x : Int) (u : Tok) (c0 : (decide (x < -(2 ^ 63)) || decide (x ≥ 2 ^ 63)) = false) (c1 : (items.isEmpty || x == 1) = false) (c2 : (decide (x ≤ 0) || items.isEmpty) = true) :
    Meets (Builtin.«tuple.__mul__» ⟨[.ref l, .int x u], []⟩) (fun _ R s => s.heap.get? l = some { cls := .type "tuple", dict := dd, data := .seq items n, slots := sl } ∧
      R (.ok (.ret (Value.ref s.heap.objs.size))) { s with heap := s.heap.push { cls := Value.type "tuple", data := Data.seq #[] }, toks := s.toks }) :=
  .of_wp fun prog w A R s h => by
    obtain ⟨hp, g, d, tk, os⟩ := s
    obtain ⟨hl, h⟩ := h
    have f1 := AutoSeq1.idx_int
    wp_walk using wpAny_loadPart' hl
    repeat (first
      | (refine wpAny_ite_false (decide_eq_false (by rw [c0]; exact Bool.false_ne_true)) ?_; wp_walk using wpAny_loadPart' hl)
      | (refine wpAny_ite_false (decide_eq_false (by rw [c1]; exact Bool.false_ne_true)) ?_; wp_walk using wpAny_loadPart' hl)
      | (refine wpAny_ite_true (decide_eq_true (by rw [c2])) ?_; wp_walk using wpAny_loadPart' hl))
    exact ⟨_, rfl, h⟩
def rRep01 (K : PySem.W.Frag) : R2 := fun x y H Q => ∃ l k xs, x = .ref l ∧ y = .int k ∧ SqT K H l xs ∧ xs ≠ [] ∧ -(2 ^ 63) ≤ k ∧ k ≤ 1 ∧ (k = 1 → Q (.ref l) H) ∧ (k ≤ 0 → NewT H [] Q)
section
variable {X : Cx} {EK : EKt} {K : Gx}
theorem op_rep01 : OpR X (binaryOp .Mult) (rRep01 X.K) := by
  intro pins s σ H x y v u Q I rx ry hyp
  obtain ⟨l, k, xs, rfl, rfl, sq, hne, k1, k2, q1, q0⟩ := hyp
  cases rx
  obtain ⟨t, rfl⟩ := ry
  obtain ⟨its, rv, ⟨⟨cls, dd, data, sl⟩, ho, hc, n, hd⟩, hs⟩ := I.tuple sq
  simp only at hc hd
  subst hc hd
  have hi : its.toArray.isEmpty = false := by
    cases its with
    | nil =>
      have := rv.length
      exact absurd (List.length_eq_zero_iff.mp this) hne
    | cons a b => rfl
  have go : ∀ {R : Result → Shared → Prop}, codeAny (model X.prog X.w) X.A.in1 (.builtin "tuple.__mul__" ⟨[.ref l, .int k t], []⟩) R s → True := fun _ => trivial
  refine wpAny_binaryOp_repeat_ref (T := "tuple") (U := "int") (by decide) ⟨_, ho, rfl⟩ (fun s' => typeIs_int s' k t) noFill_tuple_mul PySem.F.fills_int_mul PySem.F.slot_int_rmul repeat_tuple PySem.F.slot_int_index.lookup
    (call_meets PySem.F.slot_int_rmul (typeIs_int s k t) PySem.F.entry_int_rmul (PySem.F.args_int_rmul_2 _ _) (int_rmul_tuple k t l its.toArray n dd sl) ⟨ho, rfl, ⟨_, ho, rfl⟩, ?_⟩)
  by_cases e1 : k = 1
  · subst e1
    exact call_meets PySem.F.slot_tuple_mul ⟨_, ho, rfl⟩ PySem.F.entry_tuple_mul (PySem.F.args_tuple_mul_2 _ _) (tuple_mul1 l its.toArray n dd sl t) ⟨ho, .ref l, H, I, rfl, q1 rfl⟩
  · refine call_meets PySem.F.slot_tuple_mul ⟨_, ho, rfl⟩ PySem.F.entry_tuple_mul (PySem.F.args_tuple_mul_2 _ _) (tuple_mul0 l its.toArray n dd sl k t ?_ ?_ ?_) ⟨ho, newT (us := []) I .nil (Nat.zero_le _) (q0 (by omega))⟩
    · rw [decide_eq_false (by omega), decide_eq_false (by omega)]; rfl
    · rw [hi, Bool.false_or]; exact beq_eq_false_iff_ne.mpr e1
    · rw [decide_eq_true (by omega)]; rfl
def opMul3 : D → D → W D
  | .tup xs, .int k => W.need (xs ≠ [] ∧ -(2 ^ 63) ≤ k ∧ k ≤ 5000 ∧ xs.length ≤ 1000) (W.pure (.tup (List.replicate k.toNat xs).flatten))
  | d, e => opMul2 d e
theorem s_mul3 : Sim2 K EK (fun x y H Q => rMul2 K.K x y H Q ∨ rRep01 K.K x y H Q) opMul3 := fun H h x y d e Q hr rx ry run => by
  unfold opMul3 at run
  split at run
  · rename_i xs k
    obtain ⟨⟨n0, k1, k2, z⟩, run⟩ := run
    by_cases hk : 2 ≤ k
    · exact .inl (s_mul2 (EK := EK) H h x y (.tup xs) (.int k) Q hr rx ry ⟨⟨n0, hk, k2, z⟩, run⟩)
    · rw [rep_int ry]
      cases rx with
      | @tup a vs _ s rr =>
        have nv : vs ≠ [] := fun e => n0 (by subst e; cases rr; rfl)
        refine .inr ⟨a, _, vs, rfl, rfl, s.1, nv, k1, by omega, fun e => ?_, fun e p o hp ho => ?_⟩
        · subst e
          have e2 : (List.replicate (1 : Int).toNat xs).flatten = xs := by simp
          rw [e2] at run
          exact run _ H Ext.refl hr (.tup s rr)
        · have e2 : (List.replicate k.toNat xs).flatten = [] := by rw [show k.toNat = 0 by omega]; rfl
          rw [e2] at run
          exact run _ _ (Ext.laid hp) (hr.under hp) (.tup (SqP.of ho) .nil)
  · exact .inl (s_mul2 (EK := EK) H h x y _ _ Q hr rx ry run)
def opMulF3 : D → D → W D
  | .tup xs, .int k => W.need (xs ≠ [] ∧ -(2 ^ 63) ≤ k ∧ k ≤ 5000 ∧ xs.length ≤ 1000) (W.pure (.tup (List.replicate k.toNat xs).flatten))
  | d, e => opMulF2 d e
variable {r : Lo} {a b c : Expr} {ma mb mc : W D} {pos p1 p2 : Pos}
theorem mulF3_ok {h : DH} {d e : D} {Q : D → DH → Prop} (q : (opMulF3 d e).run h Q EK) : ((opMul3 d e).bind frzQ).run h Q EK := by
  unfold opMulF3 at q
  split at q
  · exact q
  · rename_i hn
    have e1 : opMul3 d e = opMul2 d e := by
      unfold opMul3
      split
      · exact (hn _ _ rfl rfl).elim
      · rfl
    rw [e1]
    unfold opMulF2 at q
    split at q
    · exact q
    · exact (hn _ _ rfl rfl).elim
    · exact ⟨_, rfl, q.1.1, q.1.2.1, q.1.2.2, fun p hp => new_frz q.2 p hp⟩
    · exact q.elim
theorem de_mulF3 (ha : DE X EK r a ma) (hb : DE X EK r b mb) : DE X EK r (.BinOp a .Mult b pos) (e2 opMulF3 ma mb) :=
  de_conv (de_frzQ (de_bin (o_mul2.or op_rep01) s_mul3 ha hb)) fun h Q run => ma.mono (fun d h1 q => mb.mono (fun e h2 q2 => mulF3_ok q2) q) run
def opAdd3 : D → D → W D
  | .tup xs, .tup ys => W.need (xs.length + ys.length ≤ sizeLine) (W.pure (.tup (xs ++ ys)))
  | d, e => opAdd d e
theorem s_add3 : Sim2 K EK (fun x y H Q => rAddA K.K x y H Q ∨ rCatF K.K x y H Q) opAdd3 := fun H h x y d e Q hr rx ry run => by
  unfold opAdd3 at run
  split at run
  · rename_i xs ys
    obtain ⟨z, run⟩ := run
    cases rx with
    | @tup a vs _ s rr =>
      cases ry with
      | @tup b us _ t rs =>
        refine .inr ⟨a, b, vs, us, rfl, rfl, s.1, t.1, by rw [rr.length, rs.length]; exact z, fun e => ?_, fun _ e => ?_, fun _ _ p o hp ho => ?_⟩
        · subst e
          cases rr
          exact run _ H Ext.refl hr (.tup t rs)
        · subst e
          cases rs
          have run : ∀ v H', Ext K H H' → HRel K H' h → Rep K H' v (.tup (xs ++ [])) → Q v H' := run
          rw [List.append_nil] at run
          exact run _ H Ext.refl hr (.tup s rr)
        · exact run _ _ (Ext.laid hp) (hr.under hp) (.tup (SqP.of ho) ((rr.append rs).mono (Ext.laid hp)))
  · exact .inl (s_add (EK := EK) H h x y _ _ Q hr rx ry run)
def opAddF3 : D → D → W D
  | .tup xs, .tup ys => W.need (xs.length + ys.length ≤ sizeLine) (W.pure (.tup (xs ++ ys)))
  | d, e => opAddF d e
theorem addF3_ok {h : DH} {d e : D} {Q : D → DH → Prop} (q : (opAddF3 d e).run h Q EK) : ((opAdd3 d e).bind frzQ).run h Q EK := by
  unfold opAddF3 at q
  split at q
  · exact q
  · rename_i hn
    have e1 : opAdd3 d e = opAdd d e := by
      unfold opAdd3
      split
      · exact (hn _ _ rfl rfl).elim
      · rfl
    rw [e1]
    exact addF_add q
theorem de_addF3 (ha : DE X EK r a ma) (hb : DE X EK r b mb) : DE X EK r (.BinOp a .Add b pos) (e2 opAddF3 ma mb) :=
  de_conv (de_frzQ (de_bin (o_add.or op_catF) s_add3 ha hb)) fun h Q run => ma.mono (fun d h1 q => mb.mono (fun e h2 q2 => addF3_ok q2) q) run
end
end DL
namespace DL
open PySem PySem.Spec L2 PyProof.Rows
section
variable {X : Cx} {EK : EKt} {K : Gx}
theorem cd_none {z : Str} : ∀ {ks : List Str} {ds : List D}, ks.length = ds.length → cdGet ks ds z = none → z ∉ ks
  | [], _, _, _ => by simp
  | k :: ks, [], hl, _ => by simp at hl
  | k :: ks, d :: ds, hl, e => by
    unfold cdGet at e
    rw [List.zip_cons_cons, List.lookup_cons] at e
    split at e
    · cases e
    · rename_i c
      have ih := cd_none (ks := ks) (ds := ds) (by simpa using hl) e
      intro m
      rcases List.mem_cons.mp m with q | q
      · subst q; simp at c
      · exact ih q
def mGet3 : D → List D → W D
  | .cd ks ds, [.str z] => W.pure ((cdGet ks ds z).getD .non)
  | .cd ks ds, [.str z, f] => W.pure ((cdGet ks ds z).getD f)
  | d, es => mGet d es
@[reducible] def isDK3 (d : D) (h : DH) : Prop := isDK d h ∨ ∃ ks ds, d = .cd ks ds
theorem ty_dict3 : TyP X "dict" (fun x H => (∃ p, x = .ref p ∧ IsD H p) ∨ ∃ p es n, x = .ref p ∧ KDict X.K X.w p es n) := fun pins s σ H x v I r hyp => by
  rcases hyp with h | ⟨p, es, n, rfl, kd⟩
  · exact ty_dict pins s σ H x v I r h
  · cases r
    have e := I.kIn p _ kd.at_
    exact ⟨⟨_, e, rfl⟩, fun a ea => by cases ea; exact ⟨_, e, rfl⟩⟩
theorem st_dict3 : SimTy K isDK3 (fun x H => (∃ p, x = .ref p ∧ IsD H p) ∨ ∃ p es n, x = .ref p ∧ KDict K.K K.w p es n) := fun H h x d hr rp hyp => by
  rcases hyp with i | ⟨ks, ds, rfl⟩
  · exact .inl (st_dict H h x d hr rp i)
  · cases rp with
    | cd s rr =>
      obtain ⟨es, n, kd⟩ := s.it
      exact .inr ⟨_, es, n, rfl, kd⟩
theorem cd_look {H : Hp} {a : Addr} {ks : List Str} {vs : List V} {ds : List D} (s : KDs K.K K.w a ks vs) (rr : Reps K H vs ds) (z : Str) :
    ∃ o : Option V, ((∃ v u, o = some v ∧ PySem.W.nsIn K.K a z = some (some u) ∧ RelV v u) ∨ (o = none ∧ PySem.W.nsIn K.K a z = some none)) ∧ ∀ {f : V} {d : D}, Rep K H f d → Rep K H (o.getD f) ((cdGet ks ds z).getD d) := by
  cases e : cdGet ks ds z with
  | none =>
    have := cd_none (by rw [s.len, rr.length]) e
    exact ⟨none, .inr ⟨rfl, s.no z this⟩, fun rf => rf⟩
  | some d =>
    obtain ⟨i, v, h1, h2, h3⟩ := cd_at s.len rr e
    obtain ⟨u, e1, e2⟩ := s.at_ i z v h1 h2
    exact ⟨some v, .inl ⟨v, u, rfl, e1, e2⟩, fun _ => h3⟩
theorem s_get3 : SimM K EK (fun x xs H Q => rGetK x xs H Q ∨ rGetCd K.K K.w x xs H Q) mGet3 := fun H h x d xs ds Q hr rx rp run => by
  unfold mGet3 at run
  split at run
  · rename_i ks dd z
    cases rx with
    | cd s rr =>
      obtain ⟨v, rfl, rv⟩ := reps1 rp
      cases rv
      obtain ⟨o, ho, rep⟩ := cd_look s rr z
      obtain ⟨es, n, kd⟩ := s.it
      exact .inr ⟨_, z, o, es, n, rfl, kd, ho, .inl ⟨rfl, run _ H Ext.refl hr (rep .non)⟩⟩
  · rename_i ks dd z f
    cases rx with
    | cd s rr =>
      obtain ⟨v, w, rfl, rv, rw'⟩ := reps2 rp
      cases rv
      obtain ⟨o, ho, rep⟩ := cd_look s rr z
      obtain ⟨es, n, kd⟩ := s.it
      exact .inr ⟨_, z, o, es, n, rfl, kd, ho, .inr ⟨w, rfl, run _ H Ext.refl hr (rep rw')⟩⟩
  · exact .inl (s_getK (EK := EK) H h x d xs ds Q hr rx rp run)
theorem mt_or {id : String} {r1 r2 : V → List V → Hp → VK → Prop} (a : MtR X id r1) (b : MtR X id r2) : MtR X id (fun x xs H Q => r1 x xs H Q ∨ r2 x xs H Q) := fun pins s σ H x xs v us Q I rx rxs hyp => hyp.elim (a pins s σ H x xs v us Q I rx rxs) (b pins s σ H x xs v us Q I rx rxs)
variable {r : Lo} {a b c e : Expr} {ma mb mc m : W D} {pos : Pos}
end
end DL
namespace DL
open PySem PySem.Spec L2 PyProof.Rows
def keyP : Key → PyData
  | .inl i => .int i
  | .inr x => .str x
mutual
inductive PyQ (h : DH) : D → PyData → Prop
  | non : PyQ h .non .none
  | bl {b : Bool} : PyQ h (.bl b) (.bool b)
  | int {i : Int} : PyQ h (.int i) (.int i)
  | str {x : Str} : PyQ h (.str x) (.str x)
  | tup {ds : List D} {ps : List PyData} : PyQs h ds ps → PyQ h (.tup ds) (.tuple ps)
  | cl {ds : List D} {ps : List PyData} : PyQs h ds ps → PyQ h (.cl ds) (.list ps)
  | dk {ks : List Key} {ds : List D} {ps : List PyData} : PyQs h ds ps → PyQ h (.dk ks ds) (.dict ((ks.map keyP).zip ps))
  | lst {a : Addr} {ds : List D} {ps : List PyData} : h a = some (.lst ds) → PyQs h ds ps → PyQ h (.ref a) (.list ps)
inductive PyQs (h : DH) : List D → List PyData → Prop
  | nil : PyQs h [] []
  | cons {d : D} {p : PyData} {ds : List D} {ps : List PyData} : PyQ h d p → PyQs h ds ps → PyQs h (d :: ds) (p :: ps)
end
theorem PyQs.len {h : DH} : ∀ {ds : List D} {ps : List PyData}, PyQs h ds ps → ds.length = ps.length
  | _, _, .nil => rfl
  | _, _, .cons _ b => by rw [List.length_cons, List.length_cons, PyQs.len b]
section
variable {P : Program} {w : World}
theorem prs_vals {es : List DictEntry} {vs : List (Key × Value)} (p : Pairs (mixKind P w) es vs) : es.map (·.val) = vs.map (·.2) := by
  induction p with
  | nil => rfl
  | cons a b c ih => rw [List.map_cons, List.map_cons, b, ih]
theorem prs_keys {g : Heap} {es : List DictEntry} {vs : List (Key × Value)} (p : Pairs (mixKind P w) es vs) : ReadsAll g (es.map (·.key)) ((vs.map (·.1)).map keyP) [] := by
  induction p with
  | nil => exact .nil
  | @cons e kv es kvs a b c ih =>
    rcases keyIs_shape a with ⟨i, t, h1, h2⟩ | ⟨x, t, h1, h2⟩
    · rw [List.map_cons, List.map_cons, List.map_cons, h1, h2]
      exact ReadsAll.cons (as := []) (bs := []) (.int i t) ih
    · rw [List.map_cons, List.map_cons, List.map_cons, h1, h2]
      exact ReadsAll.cons (as := []) (bs := []) (.str x t) ih
theorem kv_both {l : List (Key × V)} {vs : List (Key × Value)} (r : KV l vs) : l.map (·.1) = vs.map (·.1) ∧ Vals (l.map (·.2)) (vs.map (·.2)) := by
  induction r with
  | nil => exact ⟨rfl, .nil⟩
  | cons h r ih => exact ⟨by rw [List.map_cons, List.map_cons, h.1, ih.1], .cons h.2 ih.2⟩
end
theorem zip_both {α β : Type} : ∀ {xs : List α} {ys : List β}, xs.length = ys.length → (xs.zip ys).map (·.1) = xs ∧ (xs.zip ys).map (·.2) = ys
  | [], [], _ => ⟨rfl, rfl⟩
  | x :: xs, y :: ys, h => by
    obtain ⟨a, b⟩ := zip_both (xs := xs) (ys := ys) (by simpa using h)
    exact ⟨by rw [List.zip_cons_cons, List.map_cons, a], by rw [List.zip_cons_cons, List.map_cons, b]⟩
  | [], _ :: _, h => by simp at h
  | _ :: _, [], h => by simp at h
section
variable {X : Cx} {pins : List (Addr × Obj)} {σ : L2.St} {H : Hp} {s : Shared} {h : DH}
theorem not_mods (I : Inv X pins σ H s) (hs : ∃ m, X.base.Ns sysModules m) {a : Addr} {o : Obj} {vs : Array Value} {n : Nat} (e : s.heap.get? a = some o) (d : o.data = .seq vs n) : sysModules ≠ a := fun z => by
  obtain ⟨m, o', es, ep, e', d', _⟩ := hs
  have e2 := (I.bs _ _ e').1
  rw [z, e] at e2
  cases e2
  rw [d] at d'; cases d'
mutual
theorem PyQ.reads (I : Inv X pins σ H s) (hs : ∃ m, X.base.Ns sysModules m) (hr : HRel X.gx H h) : ∀ {d : D} {p : PyData} {v : V} {u : Value}, Rep X.gx H v d → PyQ h d p → RelV v u → ∃ as, Reads s.heap u p as ∧ sysModules ∉ as
  | _, _, _, _, r, .non, ru => by cases r; cases ru; exact ⟨_, .none, by simp⟩
  | _, _, _, _, r, .bl, ru => by cases r; cases ru; exact ⟨_, .bool _, by simp⟩
  | _, _, _, _, r, .int, ru => by cases r; obtain ⟨t, rfl⟩ := ru; exact ⟨_, .int _ t, by simp⟩
  | _, _, _, _, r, .str, ru => by cases r; obtain ⟨t, rfl⟩ := ru; exact ⟨_, .str _ t, by simp⟩
  | _, _, _, _, r, .tup q, ru => by
    cases r with
    | tup z rr =>
      cases ru
      obtain ⟨its, rv, ⟨o, ho, hc, n, hd⟩, _⟩ := I.tuple z.1
      obtain ⟨as, h1, h2⟩ := PyQs.reads I hs hr rr q rv
      exact ⟨as, .tuple ho hc hd h1, h2⟩
  | _, _, _, _, r, .cl q, ru => by
    cases r with
    | cl z rr =>
      cases ru
      obtain ⟨its, rv, ⟨o, n, ho, hc, _, hd⟩, _⟩ := I.list z.list
      obtain ⟨as, h1, h2⟩ := PyQs.reads I hs hr rr q rv
      exact ⟨_, .list ho hc hd h1, fun m => (List.mem_cons.mp m).elim (not_mods I hs ho hd) h2⟩
  | .ref a, .list _, _, _, r, .lst ha q, ru => by
    obtain ⟨vs, hv, rr⟩ := hr a _ ha
    cases r
    cases ru
    obtain ⟨its, rv, ⟨o, n, ho, hc, _, hd⟩, _⟩ := I.list (SqL.of hv)
    obtain ⟨as, h1, h2⟩ := PyQs.reads I hs hr rr q rv
    exact ⟨_, .list ho hc hd h1, fun m => (List.mem_cons.mp m).elim (not_mods I hs ho hd) h2⟩
  | .dk ks ds, .dict _, _, _, r, .dk (ps := ps) q, ru => by
    cases r with
    | @dk a o l _ _ hz hk rr =>
      cases ru
      obtain ⟨_, low, vs, rel, o', es, ep, ho, hex, hdat, _, prs, _⟩ := dk_rd I.hok (.inr ⟨o, hz⟩)
      obtain ⟨k1, k2⟩ := kv_both rel
      obtain ⟨bs, h1, h2⟩ := PyQs.reads I hs hr rr q k2
      have hl : (ks.map keyP).length = ps.length := by
        rw [List.length_map, ← hk, List.length_map, ← q.len, ← rr.length, List.length_map]
      obtain ⟨z1, z2⟩ := zip_both hl
      refine ⟨_, Reads.dict (as := []) (bs := bs) ho hex.1 hdat ?_ ?_, fun m => ?_⟩
      · rw [z1, ← hk, k1]; exact prs_keys prs
      · rw [z2, prs_vals prs]; exact h1
      · have m' : sysModules ∈ a :: bs := m
        rcases List.mem_cons.mp m' with e | e
        · rw [← e] at low; simp at low
        · exact h2 e
theorem PyQs.reads (I : Inv X pins σ H s) (hs : ∃ m, X.base.Ns sysModules m) (hr : HRel X.gx H h) : ∀ {ds : List D} {ps : List PyData} {vs : List V} {us : List Value}, Reps X.gx H vs ds → PyQs h ds ps → Vals vs us → ∃ as, ReadsAll s.heap us ps as ∧ sysModules ∉ as
  | _, _, _, _, r, .nil, ru => by cases r; cases ru; exact ⟨_, .nil, by simp⟩
  | _, _, _, _, r, .cons a b, ru => by
    cases r with
    | cons r1 rr =>
      cases ru with
      | cons u1 uu =>
        obtain ⟨as, h1, h2⟩ := PyQ.reads I hs hr r1 a u1
        obtain ⟨bs, h3, h4⟩ := PyQs.reads I hs hr rr b uu
        exact ⟨_, .cons h1 h3, fun m => (List.mem_append.mp m).elim h2 h4⟩
end
end
def rRepr3 (K : Gx) : List V → Hp → VK → Prop := fun xs H Q => ∃ v d p h, xs = [v] ∧ HRel K H h ∧ Rep K H v d ∧ PyQ h d p ∧ p.showable = true ∧ p.shown.length ≤ sizeLine ∧ p.depth ≤ 60 ∧ Q (.str p.shown) H
def bRepr3 : List D → W D
  | [d] => ⟨fun h Q _ => ∃ p, PyQ h d p ∧ p.showable = true ∧ p.shown.length ≤ sizeLine ∧ p.depth ≤ 60 ∧ Q (.str p.shown) h, fun g ⟨p, a, b, c, e, k⟩ => ⟨p, a, b, c, e, g _ _ k⟩⟩
  | _ => W.fail
section
variable {X : Cx} {EK : EKt} {K : Gx}
theorem s_repr3 : SimL K EK (rRepr3 K) bRepr3 := fun H h xs ds Q hr rp run => by
  match ds, rp, run with
  | [d], rp, ⟨p, a, b, c, e, k⟩ =>
    obtain ⟨v, rfl, r1⟩ := reps1 rp
    exact ⟨v, d, p, h, rfl, hr, r1, a, b, c, e, k _ H Ext.refl hr (.str _)⟩
theorem c_repr3 (hm : ∃ m, X.base.Ns sysModules m) (hg : X.A.guards = some []) (hu : X.A.units + 64 < cLine) : CallR X (.builtin "repr") (rRepr3 X.gx) := by
  intro pins s σ H xs us Q I r hyp
  obtain ⟨v, d, p, h, rfl, hr, rd, pq, hs, hz, hdp, q⟩ := hyp
  obtain ⟨u, rfl, rx⟩ := vals1 r
  obtain ⟨as, hrd, hno⟩ := PyQ.reads I hm hr rd pq rx
  cases v with
  | ref a =>
    cases rx
    exact repr_of_reads' hrd hs (fun _ => hno) hg (by omega) (fun _ _ e => e) (fun h' t tk hk => ⟨.str _, H, I.kept (t' := tk) hk, ⟨_, rfl⟩, q⟩) hz
  | non => cases rd; cases pq; cases rx; exact PySem.P.repr_of_none ⟨.str _, H, I.tok _, ⟨_, rfl⟩, q⟩
  | bl b => cases rd; cases pq; cases rx; exact PySem.P.repr_of_bool ⟨.str _, H, I.tok _, ⟨_, rfl⟩, q⟩
  | int i => cases rd; cases pq; obtain ⟨t, rfl⟩ := rx; exact PySem.P.repr_of_int (by simpa [PyData.showable] using hs) ⟨.str _, H, I.tok _, ⟨_, rfl⟩, q⟩
  | str x => cases rd; cases pq; obtain ⟨t, rfl⟩ := rx; exact PySem.P.repr_of_str ⟨.str _, H, I.tok _, ⟨_, rfl⟩, q⟩ hz
  | _ => cases rd <;> cases pq
end
end DL
namespace DL
open PySem PySem.Spec L2
end DL
namespace DL
open PySem PySem.Spec L2
section
variable {X : Cx} {EK : EKt} {K : Gx}
def rEqLen (K : PySem.W.Frag) : R2 := fun x y H Q => ∃ a b xs ys, x = .ref a ∧ y = .ref b ∧ SqL K H a xs ∧ SqL K H b ys ∧ xs.length ≠ ys.length ∧ Q (.bl false) H
theorem op_eqLen (hu : X.A.units + 64 < cLine) : OpR X (compareOp .Eq) (rEqLen X.K) := by
  intro pins s σ H x y v u Q I rx ry hyp
  obtain ⟨a, b, xs, ys, rfl, rfl, s1, s2, hn, q⟩ := hyp
  cases rx
  cases ry
  obtain ⟨its, rv, ⟨⟨c1, d1, t1, l1⟩, n1, h1, e1, f1, g1⟩, _⟩ := I.list s1
  obtain ⟨its2, rv2, ⟨⟨c2, d2, t2, l2⟩, n2, h2, e2, f2, g2⟩, _⟩ := I.list s2
  simp only at e1 f1 g1 e2 f2 g2
  subst e1 f1 g1 e2 f2 g2
  have ta : s.TypeIs (.ref a) "list" := ⟨_, h1, rfl⟩
  have tb : s.TypeIs (.ref b) "list" := ⟨_, h2, rfl⟩
  have hc : (its.toArray.size != its2.toArray.size) = true := by
    rw [List.size_toArray, List.size_toArray, ← rv.length, ← rv2.length]
    exact bne_iff_ne.mpr hn
  show wpAny _ _ (richCompare .Eq (.ref a) (.ref b)) _ _ _
  exact wpAny_richCompare_same_room (op := .Eq) ta tb PySem.F.slot_list_eq (call_meets PySem.F.slot_list_eq ta PySem.F.entry_list_eq (PySem.F.args_list_eq_2 _ _) (PySem.SeqAt.list_eq_lengthsAt a b its.toArray its2.toArray n1 n2 none none l1 l2 hc)
    ⟨h1, h2, (fun x => nomatch x), .bl false, H, I, rfl, q⟩) (by omega)
def rNeLen (K : PySem.W.Frag) : R2 := fun x y H Q => ∃ a b xs ys, x = .ref a ∧ y = .ref b ∧ SqL K H a xs ∧ SqL K H b ys ∧ xs.length ≠ ys.length ∧ Q (.bl true) H
theorem op_neLen (hu : X.A.units + 64 < cLine) : OpR X (compareOp .NotEq) (rNeLen X.K) := by
  intro pins s σ H x y v u Q I rx ry hyp
  obtain ⟨a, b, xs, ys, rfl, rfl, s1, s2, hn, q⟩ := hyp
  cases rx
  cases ry
  obtain ⟨its, rv, ⟨⟨c1, d1, t1, l1⟩, n1, h1, e1, f1, g1⟩, _⟩ := I.list s1
  obtain ⟨its2, rv2, ⟨⟨c2, d2, t2, l2⟩, n2, h2, e2, f2, g2⟩, _⟩ := I.list s2
  simp only at e1 f1 g1 e2 f2 g2
  subst e1 f1 g1 e2 f2 g2
  have ta : s.TypeIs (.ref a) "list" := ⟨_, h1, rfl⟩
  have tb : s.TypeIs (.ref b) "list" := ⟨_, h2, rfl⟩
  have hc : (its.toArray.size != its2.toArray.size) = true := by
    rw [List.size_toArray, List.size_toArray, ← rv.length, ← rv2.length]
    exact bne_iff_ne.mpr hn
  show wpAny _ _ (richCompare .NotEq (.ref a) (.ref b)) _ _ _
  exact wpAny_richCompare_same_room (op := .NotEq) ta tb PySem.F.slot_list_ne (call_meets PySem.F.slot_list_ne ta PySem.F.entry_list_ne (PySem.F.args_list_ne_2 _ _) (PySem.SeqAt.list_ne_lengthsAt a b its.toArray its2.toArray n1 n2 none none l1 l2 hc)
    ⟨h1, h2, (fun x => nomatch x), .bl true, H, I, rfl, q⟩) (by omega)
def opEqL : D → D → W Bool
  | .cl xs, .cl ys => if xs.length = ys.length then opEq (.cl xs) (.cl ys) else W.pure false
  | d, e => opEq d e
@[reducible] def opNeL (d e : D) : W Bool := (opEqL d e).bind fun b => W.pure (!b)
theorem s_eqL : SimC K EK (fun x y H Q => rEqA K.K x y H Q ∨ rEqLen K.K x y H Q) opEqL := fun H h x y d e Q hr rx ry run => by
  unfold opEqL at run
  split at run
  · split at run
    · exact .inl (s_eq (EK := EK) H h x y _ _ Q hr rx ry run)
    · rename_i hn
      cases rx with
      | cl s1 r1 =>
        cases ry with
        | cl s2 r2 => exact .inr ⟨_, _, _, _, rfl, rfl, s1.list, s2.list, by rw [r1.length, r2.length]; exact hn, run H Ext.refl hr⟩
  · exact .inl (s_eq (EK := EK) H h x y _ _ Q hr rx ry run)
theorem s_neL : SimC K EK (fun x y H Q => rNeA K.K x y H Q ∨ rNeLen K.K x y H Q) opNeL := fun H h x y d e Q hr rx ry run => by
  unfold opNeL opEqL at run
  split at run
  · rename_i xs ys
    by_cases hn : xs.length = ys.length
    · rw [if_pos hn] at run
      exact .inl (s_ne (EK := EK) H h x y _ _ Q hr rx ry run)
    · rw [if_neg hn] at run
      replace run : ∀ H', Ext K H H' → HRel K H' h → Q (.bl (!false)) H' := run
      cases rx with
      | cl s1 r1 =>
        cases ry with
        | cl s2 r2 => exact .inr ⟨_, _, _, _, rfl, rfl, s1.list, s2.list, by rw [r1.length, r2.length]; exact hn, run H Ext.refl hr⟩
  · exact .inl (s_ne (EK := EK) H h x y _ _ Q hr rx ry run)
theorem o_eqL (hu : X.A.units + 64 < cLine) : OpR X (compareOp .Eq) (fun x y H Q => rEqA X.K x y H Q ∨ rEqLen X.K x y H Q) := (o_eq hu).or (op_eqLen hu)
theorem o_neL (hu : X.A.units + 64 < cLine) : OpR X (compareOp .NotEq) (fun x y H Q => rNeA X.K x y H Q ∨ rNeLen X.K x y H Q) := (o_ne hu).or (op_neLen hu)
end
end DL
namespace DL
open PySem PySem.Spec L2
section
variable {X : Cx} {EK : EKt} {K : Gx}
def rEqT0 (K : PySem.W.Frag) (neg : Bool) : R2 := fun x y H Q => ∃ a b xs, x = .ref a ∧ y = .ref b ∧ SqT K H a xs ∧ SqT K H b [] ∧ Q (.bl (if neg then !xs.isEmpty else xs.isEmpty)) H
theorem min_nil {xs : List Value} : ((List.range (min xs.toArray.size ([] : List Value).toArray.size)).all (fun _ => true) && xs.toArray.size == ([] : List Value).toArray.size) = xs.isEmpty := by
  cases xs <;> rfl
theorem vals_empty {vs : List V} {us : List Value} (r : Vals vs us) : vs.isEmpty = us.isEmpty := by cases r <;> rfl
theorem op_eqT0 (hu : X.A.units + 64 < cLine) : OpR X (compareOp .Eq) (rEqT0 X.K false) := by
  intro pins s σ H x y v u Q I rx ry hyp
  obtain ⟨a, b, xs, rfl, rfl, s1, s2, q⟩ := hyp
  cases rx
  cases ry
  obtain ⟨its, rv, t1, _⟩ := I.tuple s1
  obtain ⟨its2, rv2, t2, _⟩ := I.tuple s2
  cases rv2
  have rc := PySem.SeqAt.RcAt.tuples (A := X.A) (e := fun _ => true) t1 t2 (by omega) (fun j h1 h2 => absurd h2 (Nat.not_lt_zero j))
  rw [min_nil, ← vals_empty rv] at rc
  show wpAny _ _ (richCompare .Eq (.ref a) (.ref b)) _ _ _
  exact rc _ _ _ _ ⟨.bl _, H, I, rfl, q⟩
theorem op_neT0 (hu : X.A.units + 64 < cLine) : OpR X (compareOp .NotEq) (rEqT0 X.K true) := by
  intro pins s σ H x y v u Q I rx ry hyp
  obtain ⟨a, b, xs, rfl, rfl, s1, s2, q⟩ := hyp
  cases rx
  cases ry
  obtain ⟨its, rv, t1, _⟩ := I.tuple s1
  obtain ⟨its2, rv2, t2, _⟩ := I.tuple s2
  cases rv2
  have rc := PySem.SeqAt.RcNeAt.tuples (A := X.A) (e := fun _ => true) t1 t2 (by omega) (fun j h1 h2 => absurd h2 (Nat.not_lt_zero j))
  rw [min_nil, ← vals_empty rv] at rc
  show wpAny _ _ (richCompare .NotEq (.ref a) (.ref b)) _ _ _
  exact rc _ _ _ _ ⟨.bl _, H, I, rfl, q⟩
def opEq4 : D → D → W Bool
  | .tup xs, .tup [] => W.pure xs.isEmpty
  | d, e => opEqL d e
@[reducible] def opNe4 (d e : D) : W Bool := (opEq4 d e).bind fun b => W.pure (!b)
theorem reps_emp {H : Hp} {vs : List V} {ds : List D} (r : Reps K H vs ds) : vs.isEmpty = ds.isEmpty := by cases r <;> rfl
theorem s_eq4 : SimC K EK (fun x y H Q => (rEqA K.K x y H Q ∨ rEqLen K.K x y H Q) ∨ rEqT0 K.K false x y H Q) opEq4 := fun H h x y d e Q hr rx ry run => by
  unfold opEq4 at run
  split at run
  · cases rx with
    | tup s1 r1 =>
      cases ry with
      | tup s2 r2 =>
        cases r2
        exact .inr ⟨_, _, _, rfl, rfl, s1.1, s2.1, by rw [reps_emp r1]; exact run H Ext.refl hr⟩
  · exact .inl (s_eqL (EK := EK) H h x y _ _ Q hr rx ry run)
theorem s_ne4 : SimC K EK (fun x y H Q => (rNeA K.K x y H Q ∨ rNeLen K.K x y H Q) ∨ rEqT0 K.K true x y H Q) opNe4 := fun H h x y d e Q hr rx ry run => by
  unfold opNe4 opEq4 at run
  split at run
  · rename_i xs
    replace run : ∀ H', Ext K H H' → HRel K H' h → Q (.bl (!xs.isEmpty)) H' := run
    cases rx with
    | tup s1 r1 =>
      cases ry with
      | tup s2 r2 =>
        cases r2
        exact .inr ⟨_, _, _, rfl, rfl, s1.1, s2.1, by rw [reps_emp r1]; exact run H Ext.refl hr⟩
  · exact .inl (s_neL (EK := EK) H h x y _ _ Q hr rx ry run)
theorem o_eq4 (hu : X.A.units + 64 < cLine) : OpR X (compareOp .Eq) (fun x y H Q => (rEqA X.K x y H Q ∨ rEqLen X.K x y H Q) ∨ rEqT0 X.K false x y H Q) := (o_eqL hu).or (op_eqT0 hu)
theorem o_ne4 (hu : X.A.units + 64 < cLine) : OpR X (compareOp .NotEq) (fun x y H Q => (rNeA X.K x y H Q ∨ rNeLen X.K x y H Q) ∨ rEqT0 X.K true x y H Q) := (o_neL hu).or (op_neT0 hu)
end
end DL
namespace DL
open PySem PySem.Spec PyProof.Rows L2
section
variable {X : Cx} {EK : EKt} {K : Gx}
def rSortT (K : PySem.W.Frag) : List V → Hp → VK → Prop := fun xs H Q => ∃ (a : Addr) (zs : List Str), xs = [.ref a] ∧ (SqT K H a (zs.map V.str) ∨ SqL K H a (zs.map V.str)) ∧ ∀ (ys : List Str) (p : Addr), ys.Perm zs → sortedS ys = true → H p = none → Q (.ref p) (L2.upd H p (.lst (ys.map V.str)))
theorem cr_sortT : CallR X (.builtin "sorted") (rSortT X.K) := by
  intro pins s σ H xs us Q I r hyp
  obtain ⟨a, zs, rfl, ha, q⟩ := hyp
  obtain ⟨u, rfl, ru⟩ := vals1 r
  cases ru
  obtain ⟨vs, rv, T, o, n, hT, ho, hc, hd, len⟩ : ∃ (vs : List Value), Vals (zs.map V.str) vs ∧ ∃ (T : String) (o : Obj) (n : Nat), (T = "list" ∨ T = "tuple") ∧ s.heap.get? a = some o ∧ o.cls = .type T ∧ o.data = .seq vs.toArray n ∧ vs.length ≤ sizeLine := by
    rcases ha with ha | ha
    · obtain ⟨its, rv, ⟨o, ho, hc, n, hd⟩, hz⟩ := I.tuple ha
      exact ⟨its, rv, "tuple", o, n, .inr rfl, ho, hc, hd, by rw [← rv.length]; exact hz⟩
    · obtain ⟨its, rv, ⟨o, n, ho, hc, _, hd⟩, hz⟩ := I.list ha
      exact ⟨its, rv, "list", o, n, .inl rfl, ho, hc, hd, by rw [← rv.length]; exact hz⟩
  have hw := rv.strs
  refine Calls.call_function_entry kind_sorted plain_sorted entry_sorted (args_sorted1 _) ?_
  unfold Builtin.«sorted»
  refine wpAny_bind (m := checkCount "sorted" 1 1 _) (wpAny_pure ?_)
  refine wpAny_bind (wpAny_collect_seq (A := X.A.in1) a hT ho hc hd (fun h1 k1 => ?_) (by rw [List.size_toArray]; exact len))
  refine wpAny_bind (wpAny_newList ?_ len)
  have hoL : (h1.push (seqObj "list" vs.toArray 0)).get? h1.objs.size = some (seqObj "list" vs.toArray 0) := Heap.get?_push_size _ rfl
  have I1 : Inv X pins σ H { s with heap := h1 } := I.kept (t' := s.toks) k1
  refine wpAny_bind (wpAny_holding (wpAny_call_entry slot_list_sort ⟨_, hoL, rfl⟩ entry_list_sort
    (list_sort_treeKAny strKind_oneLt (s := { s with heap := h1.push (seqObj "list" vs.toArray 0) }) hoL hw.keysOf (fun v₁ v₂ rest e => keyKind_strs (by rw [← e]; exact hw)) len fun st' hp hs => ⟨_, rfl, ?_⟩)
    (args_list_sort _)))
  obtain ⟨ys, y1, y2, y3⟩ := sorted_out_str hw hp hs
  obtain ⟨c, hc'⟩ := sortedHeap_at (vs := vs) (out := (arrOf st').map (·.2)) hoL
  have fresh : H h1.objs.size = none := I1.hok.fresh (Nat.le_refl _)
  have keep : ∀ b u, h1.get? b = some u → (sortedHeap (h1.push (seqObj "list" vs.toArray 0)) h1.objs.size vs ((arrOf st').map (·.2))).get? b = some u := fun b u e => by
    have lt := Heap.lt_size e
    rw [sortedHeap_old (Nat.ne_of_lt lt) (by rw [size_push']; exact Nat.lt_succ_of_lt lt)]
    exact Heap.get?_push_of_some _ e
  have lenY : (ys.map V.str).length ≤ sizeLine := by
    rw [List.length_map, y2.length_eq, ← hw.length]; exact len
  have J : Inv X pins σ (L2.upd H h1.objs.size (.lst (ys.map V.str))) { s with heap := sortedHeap (h1.push (seqObj "list" vs.toArray 0)) h1.objs.size vs ((arrOf st').map (·.2)) } :=
    Inv.call' (s := { s with heap := h1 }) (ch := []) I1 rfl (Un.laid keep (Nat.le_refl _) fresh) (HOk.laid (h := h1) I1.hok keep (Nat.le_refl _) ⟨lenY, ((arrOf st').map (·.2)).toList, c, vals_of_strs y1, by rw [Array.toArray_toList]; exact hc'⟩) I1.bare (fun _ z => nomatch z)
  refine wpAny_pure ⟨_, rfl, .ref h1.objs.size, _, J, rfl, q ys _ y2 y3 fresh⟩
def bSortT : List D → W D
  | [d] => ⟨fun h Q _ => ∃ zs : List Str, Items h d (zs.map D.str) ∧ ∀ (ys : List Str) (p : Addr), ys.Perm zs → sortedS ys = true → h p = none → Q (.ref p) (h.upd p (.lst (ys.map D.str))), fun g ⟨a, b, k⟩ => ⟨a, b, fun ys p h1 h2 h3 => g _ _ (k ys p h1 h2 h3)⟩⟩
  | _ => W.fail
theorem s_sortT : SimL K EK (rSortT K.K) bSortT := fun H h xs ds Q hr rp run => by
  match ds, rp, run with
  | [d], rp, ⟨zs, i, run⟩ =>
    obtain ⟨v, rfl, r1⟩ := reps1 rp
    obtain ⟨p, vs, ev, sv, rr⟩ : ∃ p vs, v = .ref p ∧ (SqT K.K H p vs ∨ SqL K.K H p vs) ∧ Reps K H vs (zs.map D.str) := by
      cases d with
      | cl ys => cases r1 with | cl s rr => have i' : zs.map D.str = ys := i; subst i'; exact ⟨_, _, rfl, .inr s.list, rr⟩
      | ref a => obtain ⟨vs, hv, rr⟩ := hr a _ i; exact ⟨a, vs, rep_ref r1, .inr (SqL.of hv), rr⟩
      | tup ys => cases r1 with | tup s rr => have i' : zs.map D.str = ys := i; subst i'; exact ⟨_, _, rfl, .inl s.1, rr⟩
      | _ => exact (show False from i).elim
    subst ev
    rw [reps_strs rr] at sv
    exact ⟨p, zs, rfl, sv, fun ys q h1 h2 hq => run ys q h1 h2 (hr.none hq) _ _ (Ext.laid hq) (hr.laid hq ⟨_, upd_same, strs_reps ys⟩) (.ref q)⟩
def bSort3 (ds : List D) : W D := W.alt (bSort2 ds) (bSortT ds)
theorem cr_sort3 (hc : X.calm = true) : CallR X (.builtin "sorted") (fun xs H Q => rSort2 X.gx xs H Q ∨ rSortT X.K xs H Q) := (cr_sort2 hc).or cr_sortT
theorem s_sort3 : SimL K EK (fun xs H Q => rSort2 K xs H Q ∨ rSortT K.K xs H Q) bSort3 := simL_alt s_sort2 s_sortT
def bSortF3 : List D → W D
  | [.tup xs] => ⟨fun h Q _ => ∃ zs, strsD xs = some zs ∧ Q (.cl ((sortS zs).map D.str)) h, fun g ⟨a, b, k⟩ => ⟨a, b, g _ _ k⟩⟩
  | [.cl xs] => ⟨fun h Q _ => ∃ zs, strsD xs = some zs ∧ Q (.cl ((sortS zs).map D.str)) h, fun g ⟨a, b, k⟩ => ⟨a, b, g _ _ k⟩⟩
  | ds => bSortF ds
theorem sortF3_ok {h : DH} {ds : List D} {Q : D → DH → Prop} (q : (bSortF3 ds).run h Q EK) : ((bSort3 ds).bind frzQ).run h Q EK := by
  unfold bSortF3 at q
  split at q
  · obtain ⟨zs, e, q⟩ := q
    have e' := strsD_eq e
    subst e'
    exact .inr ⟨zs, rfl, fun ys p h1 h2 hp => new_frz (by rw [sortS_eq h1 h2]; exact q) p hp⟩
  · obtain ⟨zs, e, q⟩ := q
    have e' := strsD_eq e
    subst e'
    exact .inr ⟨zs, rfl, fun ys p h1 h2 hp => new_frz (by rw [sortS_eq h1 h2]; exact q) p hp⟩
  · exact .inl (sortF_ok q)
theorem de_newDF {r : Lo} {pos : Pos} : DE X EK r (.Dict [] [] pos) (W.pure (.dk [] [])) := de_conv (de_frzQ de_newD) fun h Q run => .inl fun p hp => ⟨_, DH.upd_same, by
  show Q (.dk [] []) ((h.upd p (.dK [])).del p)
  rw [DH.upd_del hp]; exact run⟩
theorem keys_reps {H : Hp} : ∀ (ks : List Key), Reps K H (ks.map kV) (ks.map kD)
  | [] => .nil
  | k :: ks => .cons (kD_rep k) (keys_reps ks)
def bListK : List D → W D
  | [d] => ⟨fun h Q _ => ∃ kvs : List (Key × D), DctI h d kvs ∧ ∀ p, h p = none → Q (.ref p) (h.upd p (.lst ((kvs.map Prod.fst).map kD))), fun g ⟨a, b, k⟩ => ⟨a, b, fun p hp => g _ _ (k p hp)⟩⟩
  | _ => W.fail
theorem s_listK : SimL K EK (fun xs H Q => ∃ (a : Addr) (kvs : List (Key × V)), xs = [.ref a] ∧ Rd H a (.dK kvs) ∧ ∀ p, H p = none → Q (.ref p) (L2.upd H p (.lst (kvs.map fun kv => kV kv.1)))) bListK := fun H h xs ds Q hr rp run => by
  match ds, rp, run with
  | [d], rp, ⟨kvs, i, run⟩ =>
    obtain ⟨v, rfl, r1⟩ := reps1 rp
    obtain ⟨p, l, rfl, rd, pr⟩ := i.rep hr r1
    refine ⟨p, l, rfl, rd, fun q hq => run q (hr.none hq) _ _ (Ext.laid hq) (hr.laid hq ⟨_, upd_same, ?_⟩) (.ref q)⟩
    have e : (l.map fun kv => kV kv.1) = (kvs.map Prod.fst).map kV := by rw [← ent_keys1 pr, List.map_map]; rfl
    rw [e]
    exact keys_reps _
def bList3 (ds : List D) : W D := W.alt (bList ds) (bListK ds)
theorem call_list3 (hc : X.calm = true) : CallR X (.type "list") (fun xs H Q => (∃ p ys, xs = [.ref p] ∧ (SqL X.K H p ys ∨ SqT X.K H p ys) ∧ ∀ l, H l = none → Q (.ref l) (L2.upd H l (.lst ys))) ∨ ∃ (a : Addr) (kvs : List (Key × V)), xs = [.ref a] ∧ Rd H a (.dK kvs) ∧ ∀ p, H p = none → Q (.ref p) (L2.upd H p (.lst (kvs.map fun kv => kV kv.1)))) :=
  call_list_of.or (call_listD hc)
theorem s_list3 : SimL K EK (fun xs H Q => (∃ p ys, xs = [.ref p] ∧ (SqL K.K H p ys ∨ SqT K.K H p ys) ∧ ∀ l, H l = none → Q (.ref l) (L2.upd H l (.lst ys))) ∨ ∃ (a : Addr) (kvs : List (Key × V)), xs = [.ref a] ∧ Rd H a (.dK kvs) ∧ ∀ p, H p = none → Q (.ref p) (L2.upd H p (.lst (kvs.map fun kv => kV kv.1)))) bList3 := simL_alt s_list s_listK
def bListF3 : List D → W D
  | [.dk ks ds] => W.pure (.cl (((ks.zip ds).map Prod.fst).map kD))
  | ds => bListF ds
theorem listF3_ok {h : DH} {ds : List D} {Q : D → DH → Prop} (q : (bListF3 ds).run h Q EK) : ((bList3 ds).bind frzQ).run h Q EK := by
  unfold bListF3 at q
  split at q
  · exact .inr ⟨_, rfl, fun p hp => new_frz q p hp⟩
  · exact .inl (listF_ok q)
end
end DL
namespace DL
open PySem L2

def FrX (S : Addr → Prop) (h h' : DH) : Prop := ∀ a o, h a = some o → ¬ S a → h' a = some o
abbrev Fr (h h' : DH) : Prop := FrX (fun _ => False) h h'
section
variable {S : Addr → Prop} {h h1 h2 : DH} {p a : Addr} {o o' : O}
theorem FrX.refl : FrX S h h := fun _ _ e _ => e
theorem FrX.trans (x : FrX S h h1) (y : FrX S h1 h2) : FrX S h h2 := fun a o e n => y a o (x a o e n) n
theorem Fr.refl : Fr h h := fun _ _ e _ => e
theorem Fr.trans (x : Fr h h1) (y : Fr h1 h2) : Fr h h2 := fun a o e n => y a o (x a o e n) n
theorem Fr.at_ (x : Fr h h1) (e : h a = some o) : h1 a = some o := x a o e id
theorem Fr.x (x : Fr h h1) : FrX S h h1 := fun a o e _ => x a o e id
theorem FrX.new (hp : h p = none) : FrX S h (h.upd p o) := fun a u e _ => by
  by_cases q : a = p
  · subst q; rw [hp] at e; cases e
  · rw [DH.upd_ne q]; exact e
theorem FrX.put (x : FrX S h h1) (hp : h p = none) : FrX S h (h1.upd p o) := fun a u e n => by
  by_cases q : a = p
  · subst q; rw [hp] at e; cases e
  · rw [DH.upd_ne q]; exact x a u e n
theorem FrX.putS (x : FrX S h h1) (hp : S p) : FrX S h (h1.upd p o) := fun a u e n => by
  by_cases q : a = p
  · subst q; exact absurd hp n
  · rw [DH.upd_ne q]; exact x a u e n
theorem FrX.ne (e : h a = some o) (hp : h p = none) : a ≠ p := fun z => by rw [z, hp] at e; cases e
end

section
variable {α β L C L' C' : Type} {h : DH} {E : EKt}
theorem run_conseq {m : W α} {Q Q' : α → DH → Prop} (x : m.run h Q' E) (f : ∀ a h', Q' a h' → Q a h') : m.run h Q E := m.mono f x

theorem run_for {chk : DH → Prop} {body : D → L → W (Fl L L)} {Q : Fl L' L → DH → Prop} (I : Nat → L → DH → Prop) {xs : List D} {c : L} (h0 : I 0 c h)
    (hs : ∀ i c h x, xs[i]? = some x → I i c h → chk h ∧ (body x c).run h (fun fl h' => match fl with
      | .nx c' => I (i + 1) c' h'
      | .ct c' => I (i + 1) c' h'
      | .bk c' => Q (.nx c') h'
      | .rt d => Q (.rt d) h') E) (hd : ∀ c h, I xs.length c h → chk h ∧ Q (.nx c) h) : (forW chk body xs c).run h Q E := by
  suffices H : ∀ (ys : List D) (i : Nat) (c : L) (h : DH), ys = xs.drop i → i ≤ xs.length → I i c h → (forW (L' := L') chk body ys c).run h Q E from H xs 0 c h (by simp) (Nat.zero_le _) h0
  intro ys
  induction ys with
  | nil =>
    intro i c h e hi hI
    have hl : i = xs.length := by
      have := congrArg List.length e
      simp at this; omega
    subst hl
    exact hd c h hI
  | cons y ys ih =>
    intro i c h e hi hI
    have hx : xs[i]? = some y := by
      have := congrArg (fun l : List D => l[0]?) e
      simpa using this.symm
    have hlt : i < xs.length := by
      rcases Nat.lt_or_ge i xs.length with z | z
      · exact z
      · rw [List.getElem?_eq_none z] at hx; cases hx
    have et : ys = xs.drop (i + 1) := by
      have := congrArg (fun l : List D => l.drop 1) e
      simpa [List.drop_drop, Nat.add_comm] using this
    obtain ⟨ck, q⟩ := hs i c h y hx hI
    refine ⟨ck, (body y c).mono (fun fl h' z => ?_) q⟩
    cases fl with
    | nx c' => exact ih (i + 1) c' h' et hlt z
    | ct c' => exact ih (i + 1) c' h' et hlt z
    | bk c' => exact z
    | rt d => exact z
theorem run_while {t : L → W Bool} {body : L → W (Fl L L)} {Q : Fl L' L → DH → Prop} (I : Nat → L → DH → Prop) {n : Nat} {c : L} (h0 : I n c h)
    (hs : ∀ n c h, I n c h → (t c).run h (fun k h1 => (k = true → (body c).run h1 (fun fl h' => match fl with
      | .nx c' => ∃ m, m < n ∧ I m c' h'
      | .ct c' => ∃ m, m < n ∧ I m c' h'
      | .bk c' => Q (.nx c') h'
      | .rt d => Q (.rt d) h') E) ∧ (k = false → Q (.nx c) h1)) E) : (sWhile t body c).run h Q E := by
  refine ⟨n + 1, ?_⟩
  suffices H : ∀ (N n : Nat) (c : L) (h : DH), n < N → I n c h → (whileW (L' := L') t body N c).run h Q E from H (n + 1) n c h (Nat.lt_succ_self n) h0
  intro N
  induction N with
  | zero => intro n c h hn; omega
  | succ N ih =>
    intro n c h hn hI
    show (wIte (t c) (turnW (body c) (whileW t body N)) (W.pure (.nx c))).run h Q E
    refine (t c).mono (fun k h1 ⟨q1, q2⟩ => ⟨fun hk => ?_, fun hk => q2 hk⟩) (hs n c h hI)
    refine (body c).mono (fun fl h' z => ?_) (q1 hk)
    cases fl with
    | nx c' => obtain ⟨m, hm, hI'⟩ := z; exact ih m c' h' (by omega) hI'
    | ct c' => obtain ⟨m, hm, hI'⟩ := z; exact ih m c' h' (by omega) hI'
    | bk c' => exact z
    | rt d => exact z
end

section
variable {h : DH} {E : EKt}
theorem atI_nat {α : Type} {xs : List α} {i : Nat} : atI xs (i : Int) = xs[i]? := by
  unfold atI ixN
  rw [if_pos (Int.natCast_nonneg i)]
  by_cases hi : i < xs.length
  · rw [if_pos (by omega)]; simp
  · rw [if_neg (by omega), List.getElem?_eq_none (Nat.le_of_not_lt hi)]; rfl
theorem atI_0 {α : Type} {xs : List α} : atI xs (0 : Int) = xs[0]? := atI_nat (i := 0)
theorem atI_1 {α : Type} {xs : List α} : atI xs (1 : Int) = xs[1]? := atI_nat (i := 1)
theorem atI_2 {α : Type} {xs : List α} : atI xs (2 : Int) = xs[2]? := atI_nat (i := 2)
theorem atI_3 {α : Type} {xs : List α} : atI xs (3 : Int) = xs[3]? := atI_nat (i := 3)
theorem atI_4 {α : Type} {xs : List α} : atI xs (4 : Int) = xs[4]? := atI_nat (i := 4)
theorem atI_5 {α : Type} {xs : List α} : atI xs (5 : Int) = xs[5]? := atI_nat (i := 5)
theorem atI_6 {α : Type} {xs : List α} : atI xs (6 : Int) = xs[6]? := atI_nat (i := 6)
theorem atI_7 {α : Type} {xs : List α} : atI xs (7 : Int) = xs[7]? := atI_nat (i := 7)
end
end DL
namespace DL
open PySem L2
theorem ev_add {i j : Int} {h : DH} {Q : D → DH → Prop} {E : EKt} : (opAdd (.int i) (.int j)).run h Q E = (Q (.int (i + j)) h) := rfl
theorem ev_sub {i j : Int} {h : DH} {Q : D → DH → Prop} {E : EKt} : (opSub (.int i) (.int j)).run h Q E = (Q (.int (i - j)) h) := rfl
theorem ev_mod {i j : Int} {h : DH} {Q : D → DH → Prop} {E : EKt} : (opMod (.int i) (.int j)).run h Q E = (0 < j ∧ Q (.int (i % j)) h) := rfl
theorem ev_fdiv {i j : Int} {h : DH} {Q : D → DH → Prop} {E : EKt} : (opFdiv (.int i) (.int j)).run h Q E = (CDiv i j ∧ Q (.int (i / j)) h) := rfl
theorem ev_pow {i j : Int} {h : DH} {Q : D → DH → Prop} {E : EKt} : (opPow (.int i) (.int j)).run h Q E = (CPow i j ∧ Q (.int (i ^ j.toNat)) h) := rfl
theorem ev_neg {i : Int} {h : DH} {Q : D → DH → Prop} {E : EKt} : (opNeg (.int i)).run h Q E = (Q (.int (-i)) h) := rfl
theorem ev_addS {x y : Str} {h : DH} {Q : D → DH → Prop} {E : EKt} : (opAdd (.str x) (.str y)).run h Q E = (x.length + y.length ≤ sizeLine ∧ Q (.str (x ++ y)) h) := rfl
theorem ev_addT {x y : List D} {h : DH} {Q : D → DH → Prop} {E : EKt} : (opAdd (.tup x) (.tup y)).run h Q E = ((x ≠ [] ∧ x.length + y.length ≤ sizeLine) ∧ Q (.tup (x ++ y)) h) := rfl
theorem ev_lt {i j : Int} {h : DH} {Q : Bool → DH → Prop} {E : EKt} : (opLt (.int i) (.int j)).run h Q E = (Q (decide (i < j)) h) := rfl
theorem ev_lt_t {i j : Int} {h : DH} {Q : Bool → DH → Prop} {E : EKt} (c : i < j) : (opLt (.int i) (.int j)).run h Q E = Q true h := by rw [ev_lt, decide_eq_true c]
theorem ev_lt_f {i j : Int} {h : DH} {Q : Bool → DH → Prop} {E : EKt} (c : ¬ i < j) : (opLt (.int i) (.int j)).run h Q E = Q false h := by rw [ev_lt, decide_eq_false c]
theorem ev_gt {i j : Int} {h : DH} {Q : Bool → DH → Prop} {E : EKt} : (opGt (.int i) (.int j)).run h Q E = (Q (decide (j < i)) h) := rfl
theorem ev_gt_t {i j : Int} {h : DH} {Q : Bool → DH → Prop} {E : EKt} (c : j < i) : (opGt (.int i) (.int j)).run h Q E = Q true h := by rw [ev_gt, decide_eq_true c]
theorem ev_gt_f {i j : Int} {h : DH} {Q : Bool → DH → Prop} {E : EKt} (c : ¬ j < i) : (opGt (.int i) (.int j)).run h Q E = Q false h := by rw [ev_gt, decide_eq_false c]
theorem ev_ge {i j : Int} {h : DH} {Q : Bool → DH → Prop} {E : EKt} : (opGe (.int i) (.int j)).run h Q E = (Q (decide (j ≤ i)) h) := rfl
theorem ev_ge_t {i j : Int} {h : DH} {Q : Bool → DH → Prop} {E : EKt} (c : j ≤ i) : (opGe (.int i) (.int j)).run h Q E = Q true h := by rw [ev_ge, decide_eq_true c]
theorem ev_ge_f {i j : Int} {h : DH} {Q : Bool → DH → Prop} {E : EKt} (c : ¬ j ≤ i) : (opGe (.int i) (.int j)).run h Q E = Q false h := by rw [ev_ge, decide_eq_false c]
theorem ev_eq_nn {h : DH} {Q : Bool → DH → Prop} {E : EKt} : (opEq (.non) (.non)).run h Q E = (Q (true) h) := rfl
theorem ev_eq_ni {j : Int} {h : DH} {Q : Bool → DH → Prop} {E : EKt} : (opEq (.non) (.int j)).run h Q E = (Q (false) h) := rfl
theorem ev_eq_nb {c : Bool} {h : DH} {Q : Bool → DH → Prop} {E : EKt} : (opEq (.non) (.bl c)).run h Q E = (Q (false) h) := rfl
theorem ev_eq_ns {z : Str} {h : DH} {Q : Bool → DH → Prop} {E : EKt} : (opEq (.non) (.str z)).run h Q E = (Q (false) h) := rfl
theorem ev_eq_in {i : Int} {h : DH} {Q : Bool → DH → Prop} {E : EKt} : (opEq (.int i) (.non)).run h Q E = (Q (false) h) := rfl
theorem ev_eq_ii {i : Int} {j : Int} {h : DH} {Q : Bool → DH → Prop} {E : EKt} : (opEq (.int i) (.int j)).run h Q E = (Q (decide (i = j)) h) := rfl
theorem ev_eq_i_t {i : Int} {j : Int} {h : DH} {Q : Bool → DH → Prop} {E : EKt} (c0 : (i = j)) : (opEq (.int i) (.int j)).run h Q E = Q true h := by rw [ev_eq_ii, decide_eq_true c0]
theorem ev_eq_i_f {i : Int} {j : Int} {h : DH} {Q : Bool → DH → Prop} {E : EKt} (c0 : ¬ (i = j)) : (opEq (.int i) (.int j)).run h Q E = Q false h := by rw [ev_eq_ii, decide_eq_false c0]
theorem ev_eq_is {i : Int} {z : Str} {h : DH} {Q : Bool → DH → Prop} {E : EKt} : (opEq (.int i) (.str z)).run h Q E = (Q (false) h) := rfl
theorem ev_eq_bn {b : Bool} {h : DH} {Q : Bool → DH → Prop} {E : EKt} : (opEq (.bl b) (.non)).run h Q E = (Q (false) h) := rfl
theorem ev_eq_bb {b : Bool} {c : Bool} {h : DH} {Q : Bool → DH → Prop} {E : EKt} : (opEq (.bl b) (.bl c)).run h Q E = (Q (decide (b = c)) h) := rfl
theorem ev_eq_b_t {b : Bool} {c : Bool} {h : DH} {Q : Bool → DH → Prop} {E : EKt} (c0 : (b = c)) : (opEq (.bl b) (.bl c)).run h Q E = Q true h := by rw [ev_eq_bb, decide_eq_true c0]
theorem ev_eq_b_f {b : Bool} {c : Bool} {h : DH} {Q : Bool → DH → Prop} {E : EKt} (c0 : ¬ (b = c)) : (opEq (.bl b) (.bl c)).run h Q E = Q false h := by rw [ev_eq_bb, decide_eq_false c0]
theorem ev_eq_bs {b : Bool} {z : Str} {h : DH} {Q : Bool → DH → Prop} {E : EKt} : (opEq (.bl b) (.str z)).run h Q E = (Q (false) h) := rfl
theorem ev_eq_sn {s : Str} {h : DH} {Q : Bool → DH → Prop} {E : EKt} : (opEq (.str s) (.non)).run h Q E = (Q (false) h) := rfl
theorem ev_eq_si {s : Str} {j : Int} {h : DH} {Q : Bool → DH → Prop} {E : EKt} : (opEq (.str s) (.int j)).run h Q E = (Q (false) h) := rfl
theorem ev_eq_sb {s : Str} {c : Bool} {h : DH} {Q : Bool → DH → Prop} {E : EKt} : (opEq (.str s) (.bl c)).run h Q E = (Q (false) h) := rfl
theorem ev_eq_ss {s : Str} {z : Str} {h : DH} {Q : Bool → DH → Prop} {E : EKt} : (opEq (.str s) (.str z)).run h Q E = (Q (decide (s = z)) h) := rfl
theorem ev_eq_s_t {s : Str} {z : Str} {h : DH} {Q : Bool → DH → Prop} {E : EKt} (c0 : (s = z)) : (opEq (.str s) (.str z)).run h Q E = Q true h := by rw [ev_eq_ss, decide_eq_true c0]
theorem ev_eq_s_f {s : Str} {z : Str} {h : DH} {Q : Bool → DH → Prop} {E : EKt} (c0 : ¬ (s = z)) : (opEq (.str s) (.str z)).run h Q E = Q false h := by rw [ev_eq_ss, decide_eq_false c0]
theorem ev_ixT {xs : List D} {i : Int} {h : DH} {Q : D → DH → Prop} {E : EKt} : (opIx (.tup xs) (.int i)).run h Q E = (∃ v, atI xs i = some v ∧ Q v h) := rfl
theorem ev_ixC {xs : List D} {i : Int} {h : DH} {Q : D → DH → Prop} {E : EKt} : (opIx (.cl xs) (.int i)).run h Q E = (∃ v, atI xs i = some v ∧ Q v h) := rfl
theorem ev_ixR {a : Addr} {i : Int} {h : DH} {Q : D → DH → Prop} {E : EKt} : (opIx (.ref a) (.int i)).run h Q E = (∃ v, (∃ xs, h a = some (.lst xs) ∧ atI xs i = some v) ∧ Q v h) := rfl
theorem ev_tupT {xs : List D} {h : DH} {Q : D → DH → Prop} {E : EKt} : (bTuple [.tup xs]).run h Q E = (Q (.tup xs) h) := propext ⟨fun ⟨_, e, q⟩ => by (have e2 : _ = xs := e; subst e2; exact q), fun q => ⟨xs, rfl, q⟩⟩
theorem ev_tupR {a : Addr} {h : DH} {Q : D → DH → Prop} {E : EKt} : (bTuple [.ref a]).run h Q E = (∃ xs, h a = some (.lst xs) ∧ Q (.tup xs) h) := rfl
theorem ev_min2 {i j : Int} {h : DH} {Q : D → DH → Prop} {E : EKt} : (bMin2 [.int i, .int j]).run h Q E = (Q (.int (if j < i then j else i)) h) := rfl
theorem ev_int {i : Int} {h : DH} {Q : D → DH → Prop} {E : EKt} : (bInt [.int i]).run h Q E = (Q (.int i) h) := rfl
theorem ev_truB {b : Bool} {h : DH} {Q : Bool → DH → Prop} {E : EKt} : (opTru (.bl b)).run h Q E = (Q b h) := propext ⟨fun ⟨k, e, q⟩ => by (have e2 : k = b := e; subst e2; exact q), fun q => ⟨b, rfl, q⟩⟩
theorem ev_truI {i : Int} {h : DH} {Q : Bool → DH → Prop} {E : EKt} : (opTru (.int i)).run h Q E = (Q (i != 0) h) := propext ⟨fun ⟨k, e, q⟩ => by (have e2 : k = (i != 0) := e; subst e2; exact q), fun q => ⟨_, rfl, q⟩⟩
theorem ev_truT {xs : List D} {h : DH} {Q : Bool → DH → Prop} {E : EKt} : (opTru (.tup xs)).run h Q E = (Q (!xs.isEmpty) h) := propext ⟨fun ⟨k, e, q⟩ => by (have e2 : k = (!xs.isEmpty) := e; subst e2; exact q), fun q => ⟨_, rfl, q⟩⟩
theorem ev_truR {a : Addr} {h : DH} {Q : Bool → DH → Prop} {E : EKt} : (opTru (.ref a)).run h Q E = (∃ k, (∃ xs, h a = some (.lst xs) ∧ k = !xs.isEmpty) ∧ Q k h) := rfl
theorem ev_part {i : Int} {h : DH} {Q : Option Int → DH → Prop} {E : EKt} : (opPart (.int i)).run h Q E = (Q (some i) h) := rfl
theorem ev_rng1 {j : Int} {h : DH} {Q : Src → DH → Prop} {E : EKt} : (iRange [.int j]).run h Q E = ((-(2 ^ 62) ≤ j ∧ j < 2 ^ 62) ∧ Q (sRng 0 j.toNat 1) h) := rfl
theorem ev_rng2 {i j : Int} {h : DH} {Q : Src → DH → Prop} {E : EKt} : (iRange [.int i, .int j]).run h Q E = ((-(2 ^ 62) ≤ i ∧ i < 2 ^ 62 ∧ -(2 ^ 62) ≤ j ∧ j < 2 ^ 62) ∧ Q (sRng i (j - i).toNat 1) h) := rfl
theorem ev_some {α : Type} {a : α} {p : α → Prop} : (∃ v, some a = some v ∧ p v) = p a := propext ⟨fun ⟨v, e, q⟩ => by cases e; exact q, fun q => ⟨a, rfl, q⟩⟩
theorem ev_lst {a : List D} {p : List D → Prop} : (∃ v, some (O.lst a) = some (O.lst v) ∧ p v) = p a := propext ⟨fun ⟨v, e, q⟩ => by cases e; exact q, fun q => ⟨a, rfl, q⟩⟩
theorem ev_dT {a : List (D × D)} {p : List (D × D) → Prop} : (∃ v, some (O.dT a) = some (O.dT v) ∧ p v) = p a := propext ⟨fun ⟨v, e, q⟩ => by cases e; exact q, fun q => ⟨a, rfl, q⟩⟩
theorem ev_lstd {a : List D} {p : List (D × D) → Prop} : (∃ v, some (O.lst a) = some (O.dT v) ∧ p v) = False := propext ⟨fun ⟨v, e, q⟩ => (nomatch e), False.elim⟩
theorem ev_dlst {a : List (D × D)} {p : List D → Prop} : (∃ v, some (O.dT a) = some (O.lst v) ∧ p v) = False := propext ⟨fun ⟨v, e, q⟩ => (nomatch e), False.elim⟩
theorem ev_two {a : List D} {i : Int} {p : D → Prop} : (∃ v, (∃ xs, some (O.lst a) = some (O.lst xs) ∧ atI xs i = some v) ∧ p v) = ∃ v, atI a i = some v ∧ p v := propext ⟨fun ⟨v, ⟨xs, e, k⟩, q⟩ => by cases e; exact ⟨v, k, q⟩, fun ⟨v, k, q⟩ => ⟨v, ⟨a, rfl, k⟩, q⟩⟩
theorem ev_tf {A B : Prop} : ((true = true → A) ∧ (true = false → B)) = A := propext ⟨fun x => x.1 rfl, fun a => ⟨fun _ => a, fun z => (nomatch z)⟩⟩
theorem ev_ff {A B : Prop} : ((false = true → A) ∧ (false = false → B)) = B := propext ⟨fun x => x.2 rfl, fun b => ⟨fun z => (nomatch z), fun _ => b⟩⟩
theorem ev_tf2 {A B : Prop} : ((True → A) ∧ (true = false → B)) = A := propext ⟨fun x => x.1 trivial, fun a => ⟨fun _ => a, fun z => (nomatch z)⟩⟩
theorem ev_ff2 {A B : Prop} : ((false = true → A) ∧ (True → B)) = B := propext ⟨fun x => x.2 trivial, fun b => ⟨fun z => (nomatch z), fun _ => b⟩⟩
theorem map_inj_nat : ∀ {a b : List Char}, a.map Char.toNat = b.map Char.toNat → a = b
  | [], [], _ => rfl
  | [], _ :: _, h => by simp at h
  | _ :: _, [], h => by simp at h
  | x :: xs, y :: ys, h => by
    simp only [List.map_cons, List.cons.injEq] at h
    rw [Char.toNat_inj.mp h.1, map_inj_nat h.2]
theorem str_inj {a b : String} : (Str.ofString a = Str.ofString b) = (a = b) := by
  refine propext ⟨fun h => ?_, fun h => by rw [h]⟩
  rw [Str.ofString_eq_toList, Str.ofString_eq_toList] at h
  have h1 : a.toList.map Char.toNat = b.toList.map Char.toNat := by simpa using h
  have h2 : a.toList = b.toList := by
    exact map_inj_nat h1
  exact String.toList_inj.mp h2
end DL
namespace DL
open PySem L2
mutual
def toP : D → PyData
  | .non => .none
  | .bl b => .bool b
  | .int i => .int i
  | .str s => .str s
  | .tup xs => .tuple (toPs xs)
  | .cl xs => .list (toPs xs)
  | .cd _ _ => .none
  | .dk _ _ => .none
  | .ty _ => .none
  | .gl _ => .none
  | .ref _ => .none
def toPs : List D → List PyData
  | [] => []
  | x :: xs => toP x :: toPs xs
end
mutual
def pur : D → Bool
  | .str s => PyData.strOk s
  | .tup xs => purs xs
  | .cl xs => purs xs
  | .cd _ _ => false
  | .dk _ _ => false
  | .ty _ => false
  | .gl _ => false
  | .ref _ => false
  | _ => true
def purs : List D → Bool
  | [] => true
  | x :: xs => pur x && purs xs
end
mutual
def sml : D → Bool
  | .int i => decide (i.natAbs < 10 ^ 12)
  | .tup xs => smls xs
  | .cl xs => smls xs
  | _ => true
def smls : List D → Bool
  | [] => true
  | x :: xs => sml x && smls xs
end
section
variable {h : DH} {E : EKt}
end
section
variable {h : DH} {E : EKt}
theorem pop_lst {a : Addr} {xs : List D} {y : D} {Q : D → DH → Prop} (ha : h a = some (.lst (xs ++ [y]))) (q : ∀ h1, h1 = h.upd a (.lst xs) → Q y h1) : (mPop (.ref a) []).run h Q E := ⟨_, y, ha, by simp, by rw [List.dropLast_concat]; exact q _ rfl⟩
end
end DL
namespace DL
open PySem L2
section
variable {h : DH} {E : EKt}
end
theorem uP_nm {α : Type} {d : D} {k : List D → W α} {h : DH} {Q : α → DH → Prop} {E : EKt} : (uP .nm d k).run h Q E = (k [d]).run h Q E :=
  propext ⟨fun ⟨ds, e, q⟩ => by
    have e' : ds = [d] := by simpa [Pat.flat] using e.symm
    subst e'; exact q, fun q => ⟨[d], rfl, q⟩⟩
theorem uP_cl {α : Type} {ps : List Pat} {xs ds : List D} {k : List D → W α} {h : DH} {Q : α → DH → Prop} {E : EKt} (e : Pat.flats ps xs = some ds) : (uP (.tp ps) (.cl xs) k).run h Q E = (k ds).run h Q E :=
  propext ⟨fun ⟨ds', e', q⟩ => by
    have e2 : Pat.flats ps xs = some ds' := e'
    rw [e] at e2; cases e2; exact q, fun q => ⟨ds, e, q⟩⟩
theorem uP_tp {α : Type} {ps : List Pat} {xs ds : List D} {k : List D → W α} {h : DH} {Q : α → DH → Prop} {E : EKt} (e : Pat.flats ps xs = some ds) : (uP (.tp ps) (.tup xs) k).run h Q E = (k ds).run h Q E :=
  propext ⟨fun ⟨ds', e', q⟩ => by
    have e2 : Pat.flats ps xs = some ds' := e'
    rw [e] at e2; cases e2; exact q, fun q => ⟨ds, e, q⟩⟩
end DL
namespace DL
open PySem L2
end DL
namespace DL
open PySem L2
end DL
namespace DL
open PySem L2
theorem fv_addI {i j : Int} {h : DH} {Q : D → DH → Prop} {E : EKt} : (opAddF (.int i) (.int j)).run h Q E = (Q (.int (i + j)) h) := rfl
theorem fv_addS {x y : Str} {h : DH} {Q : D → DH → Prop} {E : EKt} : (opAddF (.str x) (.str y)).run h Q E = (x.length + y.length ≤ sizeLine ∧ Q (.str (x ++ y)) h) := rfl
theorem fv_addT {x y : List D} {h : DH} {Q : D → DH → Prop} {E : EKt} : (opAddF (.tup x) (.tup y)).run h Q E = ((x ≠ [] ∧ x.length + y.length ≤ sizeLine) ∧ Q (.tup (x ++ y)) h) := rfl
theorem fv_addC {x y : List D} {h : DH} {Q : D → DH → Prop} {E : EKt} : (opAddF (.cl x) (.cl y)).run h Q E = (x.length + y.length ≤ sizeLine ∧ Q (.cl (x ++ y)) h) := rfl
theorem fv_addI2 {i j : Int} {h : DH} {Q : D → DH → Prop} {E : EKt} : (opAdd (.int i) (.int j)).run h Q E = (Q (.int (i + j)) h) := rfl
theorem fv_mulI {i j : Int} {h : DH} {Q : D → DH → Prop} {E : EKt} : (opMulF2 (.int i) (.int j)).run h Q E = (CMul i j ∧ Q (.int (i * j)) h) := rfl
theorem fv_mulC {x : List D} {j : Int} {h : DH} {Q : D → DH → Prop} {E : EKt} : (opMulF2 (.cl x) (.int j)).run h Q E = ((-(2 ^ 63) ≤ j ∧ j < 2 ^ 63 ∧ x.length * j.toNat ≤ sizeLine) ∧ Q (.cl (List.replicate j.toNat x).flatten) h) := rfl
theorem fv_mulT {x : List D} {j : Int} {h : DH} {Q : D → DH → Prop} {E : EKt} : (opMulF2 (.tup x) (.int j)).run h Q E = ((x ≠ [] ∧ 2 ≤ j ∧ j ≤ 5000 ∧ x.length ≤ 1000) ∧ Q (.tup (List.replicate j.toNat x).flatten) h) := rfl
theorem fv_ixT {xs : List D} {i : Int} {h : DH} {Q : D → DH → Prop} {E : EKt} : (opIx2 (.tup xs) (.int i)).run h Q E = (∃ v, atI xs i = some v ∧ Q v h) := rfl
theorem fv_ixC {xs : List D} {i : Int} {h : DH} {Q : D → DH → Prop} {E : EKt} : (opIx2 (.cl xs) (.int i)).run h Q E = (∃ v, atI xs i = some v ∧ Q v h) := rfl
theorem fv_ixS {s : Str} {i : Int} {h : DH} {Q : D → DH → Prop} {E : EKt} : (opIx2 (.str s) (.int i)).run h Q E = (s.length ≤ sizeLine ∧ ∃ v, ((atI s.cps.toList i).map fun c => D.str ⟨#[c]⟩) = some v ∧ Q v h) := rfl
theorem fv_ixD {ks : List Str} {ds : List D} {z : Str} {h : DH} {Q : D → DH → Prop} {E : EKt} : (opIx2 (.cd ks ds) (.str z)).run h Q E = (∃ v, cdGet ks ds z = some v ∧ Q v h) := rfl
theorem fv_ixK {ks : List Key} {ds : List D} {z : Str} {h : DH} {Q : D → DH → Prop} {E : EKt} : (opIx2 (.dk ks ds) (.str z)).run h Q E = (∃ v, findK (ks.zip ds) (.inr z) = some v ∧ Q v h) := rfl
theorem fv_ixKi {ks : List Key} {ds : List D} {z : Int} {h : DH} {Q : D → DH → Prop} {E : EKt} : (opIx2 (.dk ks ds) (.int z)).run h Q E = (∃ v, findK (ks.zip ds) (.inl z) = some v ∧ Q v h) := rfl
theorem fv_ixR {a : Addr} {e : D} {h : DH} {Q : D → DH → Prop} {E : EKt} : (opIx2 (.ref a) e).run h Q E = (∃ o, h a = some o ∧ (ixO e o).run h Q E) := rfl
theorem fv_ixO1 {xs : List D} {i : Int} {h : DH} {Q : D → DH → Prop} {E : EKt} : (ixO (.int i) (.lst xs)).run h Q E = (∃ v, atI xs i = some v ∧ Q v h) := rfl
theorem fv_ixO2 {kvs : List (Key × D)} {z : Str} {h : DH} {Q : D → DH → Prop} {E : EKt} : (ixO (.str z) (.dK kvs)).run h Q E = (∃ v, findK kvs (.inr z) = some v ∧ Q v h) := rfl
theorem fv_inT {x : D} {xs : List D} {h : DH} {Q : Bool → DH → Prop} {E : EKt} : (opIn2 x (.tup xs)).run h Q E = ((flat x = true ∧ xs.all flat = true) ∧ Q (inF x xs) h) := rfl
theorem fv_inC {x : D} {xs : List D} {h : DH} {Q : Bool → DH → Prop} {E : EKt} : (opIn2 x (.cl xs)).run h Q E = ((flat x = true ∧ xs.all flat = true) ∧ Q (inF x xs) h) := rfl
theorem fv_inR {x : D} {a : Addr} {h : DH} {Q : Bool → DH → Prop} {E : EKt} : (opIn2 x (.ref a)).run h Q E = (∃ o, h a = some o ∧ (inO x o).run h Q E) := rfl
theorem fv_inK {z : Str} {ks : List Key} {ds : List D} {h : DH} {Q : Bool → DH → Prop} {E : EKt} : (opIn2 (.str z) (.dk ks ds)).run h Q E = (Q (findK (ks.zip ds) (.inr z)).isSome h) := rfl
theorem fv_inO1 {x : D} {xs : List D} {h : DH} {Q : Bool → DH → Prop} {E : EKt} : (inO x (.lst xs)).run h Q E = ((flat x = true ∧ xs.all flat = true) ∧ Q (inF x xs) h) := rfl
theorem fv_inO2 {z : Str} {kvs : List (Key × D)} {h : DH} {Q : Bool → DH → Prop} {E : EKt} : (inO (.str z) (.dK kvs)).run h Q E = (Q (findK kvs (.inr z)).isSome h) := rfl
theorem fv_lenS {s : Str} {h : DH} {Q : D → DH → Prop} {E : EKt} : (bLen2 [.str s]).run h Q E = (s.length ≤ sizeLine ∧ Q (.int s.length) h) := rfl
theorem fv_lenT {xs : List D} {h : DH} {Q : D → DH → Prop} {E : EKt} : (bLen2 [.tup xs]).run h Q E = (Q (.int xs.length) h) := rfl
theorem fv_lenC {xs : List D} {h : DH} {Q : D → DH → Prop} {E : EKt} : (bLen2 [.cl xs]).run h Q E = (Q (.int xs.length) h) := rfl
theorem fv_lenK {ks : List Key} {ds : List D} {h : DH} {Q : D → DH → Prop} {E : EKt} : (bLen2 [.dk ks ds]).run h Q E = (Q (.int (ks.zip ds).length) h) := rfl
theorem fv_lenR {a : Addr} {h : DH} {Q : D → DH → Prop} {E : EKt} : (bLen2 [.ref a]).run h Q E = (∃ o, h a = some o ∧ (lenO o).run h Q E) := rfl
theorem fv_lenO1 {xs : List D} {h : DH} {Q : D → DH → Prop} {E : EKt} : (lenO (.lst xs)).run h Q E = (Q (.int xs.length) h) := rfl
theorem fv_lenO2 {xs : List (Key × D)} {h : DH} {Q : D → DH → Prop} {E : EKt} : (lenO (.dK xs)).run h Q E = (Q (.int xs.length) h) := rfl
theorem fv_lenO3 {xs : List Key} {h : DH} {Q : D → DH → Prop} {E : EKt} : (lenO (.tset xs)).run h Q E = (Q (.int xs.length) h) := rfl
theorem fv_stR {a : Addr} {e v : D} {h : DH} {Q : Unit → DH → Prop} {E : EKt} : (st2 (.ref a) e v).run h Q E = (∃ o, h a = some o ∧ (stO a e v o).run h Q E) := rfl
theorem fv_stO1 {a : Addr} {k : Int} {v : D} {xs : List D} {h : DH} {Q : Unit → DH → Prop} {E : EKt} : (stO a (.int k) v (.lst xs)).run h Q E = (∃ j, ixN xs.length k = some j ∧ Q () (h.upd a (.lst (xs.set j v)))) := rfl
theorem fv_stO2 {a : Addr} {z : Str} {v : D} {kvs : List (Key × D)} {h : DH} {Q : Unit → DH → Prop} {E : EKt} : (stO a (.str z) v (.dK kvs)).run h Q E = (kvs.length < sizeLine ∧ Q () (h.upd a (.dK (putD kvs (.inr z) v)))) := rfl
theorem fv_slT {xs : List D} {lo hi : Option Int} {h : DH} {Q : D → DH → Prop} {E : EKt} : (opSlF (.tup xs) lo hi).run h Q E = (Q (.tup (cutD xs lo hi)) h) := rfl
theorem fv_slC {xs : List D} {lo hi : Option Int} {h : DH} {Q : D → DH → Prop} {E : EKt} : (opSlF (.cl xs) lo hi).run h Q E = (Q (.cl (cutD xs lo hi)) h) := rfl
theorem fv_slS {z : Str} {lo hi : Option Int} {h : DH} {Q : D → DH → Prop} {E : EKt} : (opSlF (.str z) lo hi).run h Q E = (z.length ≤ sizeLine ∧ Q (.str (cutS z lo hi)) h) := rfl
theorem fv_listT {xs : List D} {h : DH} {Q : D → DH → Prop} {E : EKt} : (bListF [.tup xs]).run h Q E = (Q (.cl xs) h) := rfl
theorem fv_listC {xs : List D} {h : DH} {Q : D → DH → Prop} {E : EKt} : (bListF [.cl xs]).run h Q E = (Q (.cl xs) h) := rfl
theorem fv_tupT {xs : List D} {h : DH} {Q : D → DH → Prop} {E : EKt} : (bTuple2 [.tup xs]).run h Q E = (Q (.tup xs) h) := rfl
theorem fv_tupC {xs : List D} {h : DH} {Q : D → DH → Prop} {E : EKt} : (bTuple2 [.cl xs]).run h Q E = (Q (.tup xs) h) := rfl
theorem fv_tupR {a : Addr} {h : DH} {Q : D → DH → Prop} {E : EKt} : (bTuple2 [.ref a]).run h Q E = (∃ o, h a = some o ∧ ((match o with | .lst xs => W.pure (.tup xs) | _ => W.fail : W D)).run h Q E) := rfl
theorem fv_sortK {ks : List Key} {ds : List D} {h : DH} {Q : D → DH → Prop} {E : EKt} : (bSortF [.dk ks ds]).run h Q E = (∃ zs, strsK ((ks.zip ds).map (·.1)) = some zs ∧ zs.length < 64 ∧ Q (.cl ((sortS zs).map D.str)) h) := rfl
theorem fv_sortC {xs : List D} {h : DH} {Q : D → DH → Prop} {E : EKt} : (bSortF [.cl xs]).run h Q E = (∃ zs, strsD xs = some zs ∧ zs.length < 64 ∧ Q (.cl ((sortS zs).map D.str)) h) := rfl
theorem fv_sortR {a : Addr} {h : DH} {Q : D → DH → Prop} {E : EKt} : (bSortF [.ref a]).run h Q E = (∃ o, h a = some o ∧ (sortOF o).run h Q E) := rfl
theorem fv_sortO1 {ks : List Key} {h : DH} {Q : D → DH → Prop} {E : EKt} : (sortOF (.tset ks)).run h Q E = (∃ zs, strsK ks = some zs ∧ Q (.cl ((sortS zs).map D.str)) h) := rfl
theorem fv_seqT {xs : List D} {h : DH} {Q : Src → DH → Prop} {E : EKt} : (iSeq2 (.tup xs)).run h Q E = (Q ⟨xs, fun _ => True⟩ h) := rfl
theorem fv_seqC {xs : List D} {h : DH} {Q : Src → DH → Prop} {E : EKt} : (iSeq2 (.cl xs)).run h Q E = (Q ⟨xs, fun _ => True⟩ h) := rfl
theorem fv_seqS {z : Str} {h : DH} {Q : Src → DH → Prop} {E : EKt} : (iSeq2 (.str z)).run h Q E = (Q ⟨chars z, fun _ => True⟩ h) := rfl
theorem fv_seqK {ks : List Key} {ds : List D} {h : DH} {Q : Src → DH → Prop} {E : EKt} : (iSeq2 (.dk ks ds)).run h Q E = (Q ⟨ks.map kD, fun _ => True⟩ h) := rfl
theorem fv_truB {b : Bool} {h : DH} {Q : Bool → DH → Prop} {E : EKt} : (opTru (.bl b)).run h Q E = (Q b h) := propext ⟨fun ⟨k, e, q⟩ => by (have e2 : k = b := e; subst e2; exact q), fun q => ⟨b, rfl, q⟩⟩
theorem fv_truI {i : Int} {h : DH} {Q : Bool → DH → Prop} {E : EKt} : (opTru (.int i)).run h Q E = (Q (i != 0) h) := propext ⟨fun ⟨k, e, q⟩ => by (have e2 : k = (i != 0) := e; subst e2; exact q), fun q => ⟨_, rfl, q⟩⟩
theorem fv_truN {h : DH} {Q : Bool → DH → Prop} {E : EKt} : (opTru .non).run h Q E = (Q false h) := propext ⟨fun ⟨k, e, q⟩ => by (have e2 : k = false := e; subst e2; exact q), fun q => ⟨_, rfl, q⟩⟩
theorem fv_truC {xs : List D} {h : DH} {Q : Bool → DH → Prop} {E : EKt} : (opTru (.cl xs)).run h Q E = (Q (!xs.isEmpty) h) := propext ⟨fun ⟨k, e, q⟩ => by (have e2 : k = (!xs.isEmpty) := e; subst e2; exact q), fun q => ⟨_, rfl, q⟩⟩
theorem fv_truT {xs : List D} {h : DH} {Q : Bool → DH → Prop} {E : EKt} : (opTru (.tup xs)).run h Q E = (Q (!xs.isEmpty) h) := propext ⟨fun ⟨k, e, q⟩ => by (have e2 : k = (!xs.isEmpty) := e; subst e2; exact q), fun q => ⟨_, rfl, q⟩⟩
theorem fv_intB {b : Bool} {h : DH} {Q : D → DH → Prop} {E : EKt} : (bInt [.bl b]).run h Q E = (Q (.int (if b then 1 else 0)) h) := rfl
theorem fv_zipTT {xs : List D} {ys : List D} {h : DH} {Q : Src → DH → Prop} {E : EKt} : (iZip [.tup xs, .tup ys]).run h Q E = (Q ⟨zipD (xs) (ys), fun _ => True⟩ h) := by
  have e : (fun h => SeqD h (.tup xs) (xs) ∧ SeqD h (.tup ys) (ys)) = fun _ => True := funext fun _ => propext ⟨fun _ => trivial, fun _ => ⟨rfl, rfl⟩⟩
  rw [← e]
  exact propext ⟨fun ⟨a, b, e1, e2, q⟩ => by ((have e3 : a = xs := e1); (have e4 : b = ys := e2); subst e3; subst e4; exact q), fun q => ⟨_, _, rfl, rfl, q⟩⟩
theorem fv_zipST {z : Str} {ys : List D} {h : DH} {Q : Src → DH → Prop} {E : EKt} : (iZip [.str z, .tup ys]).run h Q E = (Q ⟨zipD (chars z) (ys), fun _ => True⟩ h) := by
  have e : (fun h => SeqD h (.str z) (chars z) ∧ SeqD h (.tup ys) (ys)) = fun _ => True := funext fun _ => propext ⟨fun _ => trivial, fun _ => ⟨rfl, rfl⟩⟩
  rw [← e]
  exact propext ⟨fun ⟨a, b, e1, e2, q⟩ => by ((have e3 : a = chars z := e1); (have e4 : b = ys := e2); subst e3; subst e4; exact q), fun q => ⟨_, _, rfl, rfl, q⟩⟩
theorem fv_zipCC {xs : List D} {ys : List D} {h : DH} {Q : Src → DH → Prop} {E : EKt} : (iZip [.cl xs, .cl ys]).run h Q E = (Q ⟨zipD (xs) (ys), fun _ => True⟩ h) := by
  have e : (fun h => SeqD h (.cl xs) (xs) ∧ SeqD h (.cl ys) (ys)) = fun _ => True := funext fun _ => propext ⟨fun _ => trivial, fun _ => ⟨rfl, rfl⟩⟩
  rw [← e]
  exact propext ⟨fun ⟨a, b, e1, e2, q⟩ => by ((have e3 : a = xs := e1); (have e4 : b = ys := e2); subst e3; subst e4; exact q), fun q => ⟨_, _, rfl, rfl, q⟩⟩
theorem fv_zipTC {xs : List D} {ys : List D} {h : DH} {Q : Src → DH → Prop} {E : EKt} : (iZip [.tup xs, .cl ys]).run h Q E = (Q ⟨zipD (xs) (ys), fun _ => True⟩ h) := by
  have e : (fun h => SeqD h (.tup xs) (xs) ∧ SeqD h (.cl ys) (ys)) = fun _ => True := funext fun _ => propext ⟨fun _ => trivial, fun _ => ⟨rfl, rfl⟩⟩
  rw [← e]
  exact propext ⟨fun ⟨a, b, e1, e2, q⟩ => by ((have e3 : a = xs := e1); (have e4 : b = ys := e2); subst e3; subst e4; exact q), fun q => ⟨_, _, rfl, rfl, q⟩⟩
theorem fv_zipCT {xs : List D} {ys : List D} {h : DH} {Q : Src → DH → Prop} {E : EKt} : (iZip [.cl xs, .tup ys]).run h Q E = (Q ⟨zipD (xs) (ys), fun _ => True⟩ h) := by
  have e : (fun h => SeqD h (.cl xs) (xs) ∧ SeqD h (.tup ys) (ys)) = fun _ => True := funext fun _ => propext ⟨fun _ => trivial, fun _ => ⟨rfl, rfl⟩⟩
  rw [← e]
  exact propext ⟨fun ⟨a, b, e1, e2, q⟩ => by ((have e3 : a = xs := e1); (have e4 : b = ys := e2); subst e3; subst e4; exact q), fun q => ⟨_, _, rfl, rfl, q⟩⟩
theorem fv_frzR {a : Addr} {h : DH} {Q : D → DH → Prop} {E : EKt} : (frzQ (.ref a)).run h Q E = (∃ o, h a = some o ∧ (frzO a o).run h Q E) := rfl
theorem fv_frz1 {a : Addr} {xs : List D} {h : DH} {Q : D → DH → Prop} {E : EKt} : (frzO a (.lst xs)).run h Q E = (Q (.cl xs) (h.del a)) := rfl
theorem fv_frz2 {a : Addr} {kvs : List (Key × D)} {h : DH} {Q : D → DH → Prop} {E : EKt} : (frzO a (.dK kvs)).run h Q E = (Q (.dk (kvs.map Prod.fst) (kvs.map Prod.snd)) (h.del a)) := rfl
theorem fv_getK1 {ks : List Key} {ds : List D} {z : Str} {h : DH} {Q : D → DH → Prop} {E : EKt} : (mGet (.dk ks ds) [.str z]).run h Q E = (Q ((findK (ks.zip ds) (.inr z)).getD .non) h) := propext ⟨fun ⟨kvs, k, e1, e2, q⟩ => by (have e3 : kvs = ks.zip ds := e1; subst e3; cases e2; exact q), fun q => ⟨_, _, rfl, rfl, q⟩⟩
theorem fv_getK2 {ks : List Key} {ds : List D} {z : Str} {f : D} {h : DH} {Q : D → DH → Prop} {E : EKt} : (mGet (.dk ks ds) [.str z, f]).run h Q E = (Q ((findK (ks.zip ds) (.inr z)).getD f) h) := propext ⟨fun ⟨kvs, k, e1, e2, q⟩ => by (have e3 : kvs = ks.zip ds := e1; subst e3; cases e2; exact q), fun q => ⟨_, _, rfl, rfl, q⟩⟩
theorem fv_cut1 {x : D} {xs : List D} : cutD (x :: xs) (some 1) none = xs := by
  unfold cutD HT.sIx
  simp
theorem fv_forN {L L' : Type} {chk : DH → Prop} {body : D → L → W (Fl L L)} {c : L} {h : DH} {Q : Fl L' L → DH → Prop} {E : EKt} : (forW chk body [] c).run h Q E = (chk h ∧ Q (.nx c) h) := rfl
theorem fv_forC {L L' : Type} {chk : DH → Prop} {body : D → L → W (Fl L L)} {x : D} {xs : List D} {c : L} {h : DH} {Q : Fl L' L → DH → Prop} {E : EKt} : (forW chk body (x :: xs) c).run h Q E = (chk h ∧ (turnW (body x c) (forW chk body xs)).run h Q E) := rfl
theorem fv_up1 {α : Type} {x : D} {k : List D → W α} {h : DH} {Q : α → DH → Prop} {E : EKt} : (uP .nm x k).run h Q E = (k [x]).run h Q E := uP_nm
theorem fv_up2 {α : Type} {x y : D} {k : List D → W α} {h : DH} {Q : α → DH → Prop} {E : EKt} : (uP (.tp [.nm, .nm]) (.tup [x, y]) k).run h Q E = (k [x, y]).run h Q E := uP_tp rfl
theorem fv_up3 {α : Type} {x y z : D} {k : List D → W α} {h : DH} {Q : α → DH → Prop} {E : EKt} : (uP (.tp [.nm, .nm, .nm]) (.tup [x, y, z]) k).run h Q E = (k [x, y, z]).run h Q E := uP_tp rfl
theorem fv_up2c {α : Type} {x y : D} {k : List D → W α} {h : DH} {Q : α → DH → Prop} {E : EKt} : (uP (.tp [.nm, .nm]) (.cl [x, y]) k).run h Q E = (k [x, y]).run h Q E := uP_cl rfl
theorem fv_up3c {α : Type} {x y z : D} {k : List D → W α} {h : DH} {Q : α → DH → Prop} {E : EKt} : (uP (.tp [.nm, .nm, .nm]) (.cl [x, y, z]) k).run h Q E = (k [x, y, z]).run h Q E := uP_cl rfl
theorem fv_app {a : Addr} {y : D} {h : DH} {Q : D → DH → Prop} {E : EKt} : (mAppend (.ref a) [y]).run h Q E = ∃ xs, h a = some (.lst xs) ∧ xs.length < sizeLine ∧ Q .non (h.upd a (.lst (xs ++ [y]))) := rfl
theorem fv_updupd {h : DH} {a : Addr} {o u : O} : (h.upd a o).upd a u = h.upd a u := by
  funext b; unfold DH.upd; split <;> rfl
theorem fv_isL {xs : List D} : (∃ ys, some (O.lst xs) = some (O.lst ys)) = True := propext ⟨fun _ => trivial, fun _ => ⟨_, rfl⟩⟩
theorem fv_isDK {ks : List Key} {ds : List D} {h : DH} : isDK (.dk ks ds) h = True := propext ⟨fun _ => trivial, fun _ => ⟨_, rfl⟩⟩
theorem fv_at {a : O} {p : O → Prop} : (∃ v, some a = some v ∧ p v) = p a := propext ⟨fun ⟨v, e, q⟩ => by cases e; exact q, fun q => ⟨a, rfl, q⟩⟩
theorem fv_forget {α : Type} {m : W α} {h : DH} {Q : α → DH → Prop} {E : EKt} : (W.forget m).run h Q E = m.run h (fun a h' => ∃ h'', Sub h'' h' ∧ Q a h'') E := rfl
theorem fv_inN {x : D} : inF x [] = false := rfl
theorem fv_inS {x y : D} {ys : List D} : inF x (y :: ys) = (eqF y x || inF x ys) := rfl
theorem fv_eqSS {a b : Str} : eqF (.str a) (.str b) = decide (a = b) := by
  show (a == b) = _
  rw [Bool.eq_iff_iff]
  simp
theorem fv_eqII {a b : Int} : eqF (.int a) (.int b) = decide (a = b) := by
  show (a == b) = _
  rw [Bool.eq_iff_iff]
  simp
theorem fv_eqNS {b : Str} : eqF .non (.str b) = false := rfl
theorem fv_eqSN {b : Str} : eqF (.str b) .non = false := rfl
theorem fv_flS {a : Str} : flat (.str a) = true := rfl
theorem fv_flI {a : Int} : flat (.int a) = true := rfl
theorem fv_flN : flat .non = true := rfl
theorem fv_flB {a : Bool} : flat (.bl a) = true := rfl
theorem fv_fkN {k : Key} : findK [] k = none := rfl
theorem fv_fkC {j k : Key} {v : D} {l : List (Key × D)} : findK ((j, v) :: l) k = if j = k then some v else findK l k := by
  unfold findK
  rw [List.find?_cons]
  by_cases e : j = k
  · simp [e]
  · simp [e]
theorem fv_cdC {z w : Str} {zs : List Str} {d : D} {ds : List D} : cdGet (z :: zs) (d :: ds) w = if w = z then some d else cdGet zs ds w := by
  unfold cdGet
  rw [List.zip_cons_cons, List.lookup_cons]
  by_cases e : w = z
  · subst e; simp
  · have e2 : (w == z) = false := by simpa using e
    rw [e2, if_neg e]
theorem fv_cut2 {x : D} {xs : List D} : cutD (x :: xs) (some 1) (some 2) = xs.take 1 := by
  unfold cutD HT.sIx
  cases xs <;> simp
theorem fv_cut3 {x y : D} {xs : List D} : cutD (x :: y :: xs) (some 1) (some 3) = y :: xs.take 1 := by
  unfold cutD HT.sIx
  cases xs <;> simp
theorem fv_cut4 {x y z : D} {xs : List D} : cutD (x :: y :: z :: xs) (some 1) (some 4) = y :: z :: xs.take 1 := by
  unfold cutD HT.sIx
  cases xs <;> simp
theorem fv_tk1 {x : D} {xs : List D} : (x :: xs).take 1 = [x] := rfl
theorem fv_rep0 {xs : List D} : (List.replicate 0 xs).flatten = [] := rfl
theorem fv_rep1 {xs : List D} : (List.replicate 1 xs).flatten = xs := by simp
theorem fv_sm0 : (-2 ^ 63 : Int) ≤ 0 := by decide
theorem fv_sm1 : (-2 ^ 63 : Int) ≤ 1 := by decide
theorem fv_sm2 : (0 : Int) < 2 ^ 63 := by decide
theorem fv_sm3 : (1 : Int) < 2 ^ 63 := by decide
theorem fv_sl0 : ((0 : Nat) < sizeLine) = True := eq_true (by decide)
theorem fv_se0 : ((0 : Nat) ≤ sizeLine) = True := eq_true (by decide)
theorem fv_sl1 : ((1 : Nat) < sizeLine) = True := eq_true (by decide)
theorem fv_se1 : ((1 : Nat) ≤ sizeLine) = True := eq_true (by decide)
theorem fv_sl2 : ((2 : Nat) < sizeLine) = True := eq_true (by decide)
theorem fv_se2 : ((2 : Nat) ≤ sizeLine) = True := eq_true (by decide)
theorem fv_sl3 : ((3 : Nat) < sizeLine) = True := eq_true (by decide)
theorem fv_se3 : ((3 : Nat) ≤ sizeLine) = True := eq_true (by decide)
theorem fv_sl4 : ((4 : Nat) < sizeLine) = True := eq_true (by decide)
theorem fv_se4 : ((4 : Nat) ≤ sizeLine) = True := eq_true (by decide)
theorem fv_sl5 : ((5 : Nat) < sizeLine) = True := eq_true (by decide)
theorem fv_se5 : ((5 : Nat) ≤ sizeLine) = True := eq_true (by decide)
theorem fv_sl6 : ((6 : Nat) < sizeLine) = True := eq_true (by decide)
theorem fv_se6 : ((6 : Nat) ≤ sizeLine) = True := eq_true (by decide)
theorem fv_sl7 : ((7 : Nat) < sizeLine) = True := eq_true (by decide)
theorem fv_se7 : ((7 : Nat) ≤ sizeLine) = True := eq_true (by decide)
theorem fv_sl8 : ((8 : Nat) < sizeLine) = True := eq_true (by decide)
theorem fv_se8 : ((8 : Nat) ≤ sizeLine) = True := eq_true (by decide)
theorem fv_sl9 : ((9 : Nat) < sizeLine) = True := eq_true (by decide)
theorem fv_se9 : ((9 : Nat) ≤ sizeLine) = True := eq_true (by decide)
theorem fv_sl10 : ((10 : Nat) < sizeLine) = True := eq_true (by decide)
theorem fv_se10 : ((10 : Nat) ≤ sizeLine) = True := eq_true (by decide)
theorem fv_sl11 : ((11 : Nat) < sizeLine) = True := eq_true (by decide)
theorem fv_se11 : ((11 : Nat) ≤ sizeLine) = True := eq_true (by decide)
theorem fv_sl12 : ((12 : Nat) < sizeLine) = True := eq_true (by decide)
theorem fv_se12 : ((12 : Nat) ≤ sizeLine) = True := eq_true (by decide)
theorem fv_sl13 : ((13 : Nat) < sizeLine) = True := eq_true (by decide)
theorem fv_se13 : ((13 : Nat) ≤ sizeLine) = True := eq_true (by decide)
theorem fv_sl14 : ((14 : Nat) < sizeLine) = True := eq_true (by decide)
theorem fv_se14 : ((14 : Nat) ≤ sizeLine) = True := eq_true (by decide)
theorem fv_sl15 : ((15 : Nat) < sizeLine) = True := eq_true (by decide)
theorem fv_se15 : ((15 : Nat) ≤ sizeLine) = True := eq_true (by decide)
theorem fv_sl16 : ((16 : Nat) < sizeLine) = True := eq_true (by decide)
theorem fv_se16 : ((16 : Nat) ≤ sizeLine) = True := eq_true (by decide)
theorem fv_sl17 : ((17 : Nat) < sizeLine) = True := eq_true (by decide)
theorem fv_se17 : ((17 : Nat) ≤ sizeLine) = True := eq_true (by decide)
theorem fv_sl18 : ((18 : Nat) < sizeLine) = True := eq_true (by decide)
theorem fv_se18 : ((18 : Nat) ≤ sizeLine) = True := eq_true (by decide)
theorem fv_sl19 : ((19 : Nat) < sizeLine) = True := eq_true (by decide)
theorem fv_se19 : ((19 : Nat) ≤ sizeLine) = True := eq_true (by decide)
theorem fv_sl20 : ((20 : Nat) < sizeLine) = True := eq_true (by decide)
theorem fv_se20 : ((20 : Nat) ≤ sizeLine) = True := eq_true (by decide)
theorem fv_sl21 : ((21 : Nat) < sizeLine) = True := eq_true (by decide)
theorem fv_se21 : ((21 : Nat) ≤ sizeLine) = True := eq_true (by decide)
theorem fv_sl22 : ((22 : Nat) < sizeLine) = True := eq_true (by decide)
theorem fv_se22 : ((22 : Nat) ≤ sizeLine) = True := eq_true (by decide)
theorem fv_sl23 : ((23 : Nat) < sizeLine) = True := eq_true (by decide)
theorem fv_se23 : ((23 : Nat) ≤ sizeLine) = True := eq_true (by decide)
theorem fv_sl24 : ((24 : Nat) < sizeLine) = True := eq_true (by decide)
theorem fv_se24 : ((24 : Nat) ≤ sizeLine) = True := eq_true (by decide)
theorem fv_sl25 : ((25 : Nat) < sizeLine) = True := eq_true (by decide)
theorem fv_se25 : ((25 : Nat) ≤ sizeLine) = True := eq_true (by decide)
theorem fv_sl26 : ((26 : Nat) < sizeLine) = True := eq_true (by decide)
theorem fv_se26 : ((26 : Nat) ≤ sizeLine) = True := eq_true (by decide)
theorem fv_sl27 : ((27 : Nat) < sizeLine) = True := eq_true (by decide)
theorem fv_se27 : ((27 : Nat) ≤ sizeLine) = True := eq_true (by decide)
theorem fv_sl28 : ((28 : Nat) < sizeLine) = True := eq_true (by decide)
theorem fv_se28 : ((28 : Nat) ≤ sizeLine) = True := eq_true (by decide)
theorem fv_sl29 : ((29 : Nat) < sizeLine) = True := eq_true (by decide)
theorem fv_se29 : ((29 : Nat) ≤ sizeLine) = True := eq_true (by decide)
theorem fv_sl30 : ((30 : Nat) < sizeLine) = True := eq_true (by decide)
theorem fv_se30 : ((30 : Nat) ≤ sizeLine) = True := eq_true (by decide)
end DL
namespace DL
open PySem L2
theorem fw_addI {i j : Int} {h : DH} {Q : D → DH → Prop} {E : EKt} : (opAddF3 (.int i) (.int j)).run h Q E = (Q (.int (i + j)) h) := rfl
theorem fw_addS {x y : Str} {h : DH} {Q : D → DH → Prop} {E : EKt} : (opAddF3 (.str x) (.str y)).run h Q E = (x.length + y.length ≤ sizeLine ∧ Q (.str (x ++ y)) h) := rfl
theorem fw_addT {x y : List D} {h : DH} {Q : D → DH → Prop} {E : EKt} : (opAddF3 (.tup x) (.tup y)).run h Q E = (x.length + y.length ≤ sizeLine ∧ Q (.tup (x ++ y)) h) := rfl
theorem fw_addC {x y : List D} {h : DH} {Q : D → DH → Prop} {E : EKt} : (opAddF3 (.cl x) (.cl y)).run h Q E = (x.length + y.length ≤ sizeLine ∧ Q (.cl (x ++ y)) h) := rfl
theorem fw_mulI {i j : Int} {h : DH} {Q : D → DH → Prop} {E : EKt} : (opMulF3 (.int i) (.int j)).run h Q E = (CMul i j ∧ Q (.int (i * j)) h) := rfl
theorem fw_mulC {x : List D} {j : Int} {h : DH} {Q : D → DH → Prop} {E : EKt} : (opMulF3 (.cl x) (.int j)).run h Q E = ((-(2 ^ 63) ≤ j ∧ j < 2 ^ 63 ∧ x.length * j.toNat ≤ sizeLine) ∧ Q (.cl (List.replicate j.toNat x).flatten) h) := rfl
theorem fw_mulT {x : List D} {j : Int} {h : DH} {Q : D → DH → Prop} {E : EKt} : (opMulF3 (.tup x) (.int j)).run h Q E = ((x ≠ [] ∧ -(2 ^ 63) ≤ j ∧ j ≤ 5000 ∧ x.length ≤ 1000) ∧ Q (.tup (List.replicate j.toNat x).flatten) h) := rfl
theorem fw_getC1 {ks : List Str} {ds : List D} {z : Str} {h : DH} {Q : D → DH → Prop} {E : EKt} : (mGet3 (.cd ks ds) [.str z]).run h Q E = (Q ((cdGet ks ds z).getD .non) h) := rfl
theorem fw_getC2 {ks : List Str} {ds : List D} {z : Str} {f : D} {h : DH} {Q : D → DH → Prop} {E : EKt} : (mGet3 (.cd ks ds) [.str z, f]).run h Q E = (Q ((cdGet ks ds z).getD f) h) := rfl
theorem fw_getK1 {ks : List Key} {ds : List D} {z : Str} {h : DH} {Q : D → DH → Prop} {E : EKt} : (mGet3 (.dk ks ds) [.str z]).run h Q E = (Q ((findK (ks.zip ds) (.inr z)).getD .non) h) := DL.fv_getK1
theorem fw_getK2 {ks : List Key} {ds : List D} {z : Str} {f : D} {h : DH} {Q : D → DH → Prop} {E : EKt} : (mGet3 (.dk ks ds) [.str z, f]).run h Q E = (Q ((findK (ks.zip ds) (.inr z)).getD f) h) := DL.fv_getK2
theorem fw_repr {d : D} {h : DH} {Q : D → DH → Prop} {E : EKt} : (bRepr3 [d]).run h Q E = (∃ p, PyQ h d p ∧ p.showable = true ∧ p.shown.length ≤ sizeLine ∧ p.depth ≤ 60 ∧ Q (.str p.shown) h) := rfl
theorem fw_all {xs : List D} {h : DH} {Q : D → DH → Prop} {E : EKt} : (bAll [.cl xs]).run h Q E = (∃ bs : List Bool, xs = bs.map D.bl ∧ Q (.bl (bs.all id)) h) := propext ⟨fun ⟨bs, a, q⟩ => ⟨bs, a.symm, q⟩, fun ⟨bs, a, q⟩ => ⟨bs, a.symm, q⟩⟩
theorem fw_lt {i j : Int} {h : DH} {Q : Bool → DH → Prop} {E : EKt} : (opLt (.int i) (.int j)).run h Q E = (Q (decide (i < j)) h) := rfl
theorem fw_ge {i j : Int} {h : DH} {Q : Bool → DH → Prop} {E : EKt} : (opGe (.int i) (.int j)).run h Q E = (Q (decide (i ≥ j)) h) := rfl
theorem fw_gt {i j : Int} {h : DH} {Q : Bool → DH → Prop} {E : EKt} : (opGt (.int i) (.int j)).run h Q E = (Q (decide (i > j)) h) := rfl
theorem fw_inS {n : Nat} {z : Str} {h : DH} {Q : Bool → DH → Prop} {E : EKt} : (opIn2 (.str ⟨#[n]⟩) (.str z)).run h Q E = (Q (decide (n ∈ z.cps.toList)) h) := propext ⟨fun ⟨m, e2, q⟩ => by
    have e3 : n = m := by injection e2 with e3; simpa using e3
    subst e3; exact q, fun q => ⟨n, rfl, q⟩⟩
theorem fw_sortT {xs : List D} {h : DH} {Q : D → DH → Prop} {E : EKt} : (bSortF3 [.tup xs]).run h Q E = (∃ zs, strsD xs = some zs ∧ Q (.cl ((sortS zs).map D.str)) h) := rfl
theorem fw_sortC {xs : List D} {h : DH} {Q : D → DH → Prop} {E : EKt} : (bSortF3 [.cl xs]).run h Q E = (∃ zs, strsD xs = some zs ∧ Q (.cl ((sortS zs).map D.str)) h) := rfl
theorem fw_sortR {a : Addr} {h : DH} {Q : D → DH → Prop} {E : EKt} : (bSortF3 [.ref a]).run h Q E = ((bSortF [.ref a]).run h Q E) := rfl
theorem fw_sortK {ks : List Key} {ds : List D} {h : DH} {Q : D → DH → Prop} {E : EKt} : (bSortF3 [.dk ks ds]).run h Q E = ((bSortF [.dk ks ds]).run h Q E) := rfl
theorem fw_listT {xs : List D} {h : DH} {Q : D → DH → Prop} {E : EKt} : (bListF3 [.tup xs]).run h Q E = (Q (.cl xs) h) := rfl
theorem fw_listC {xs : List D} {h : DH} {Q : D → DH → Prop} {E : EKt} : (bListF3 [.cl xs]).run h Q E = (Q (.cl xs) h) := rfl
theorem fw_listK {ks : List Key} {ds : List D} {h : DH} {Q : D → DH → Prop} {E : EKt} : (bListF3 [.dk ks ds]).run h Q E = (Q (.cl (((ks.zip ds).map Prod.fst).map kD)) h) := rfl
theorem fw_isDK1 {ks : List Key} {ds : List D} {h : DH} : isDK3 (.dk ks ds) h = True := propext ⟨fun _ => trivial, fun _ => .inl ⟨_, rfl⟩⟩
theorem fw_isDK2 {ks : List Str} {ds : List D} {h : DH} : isDK3 (.cd ks ds) h = True := propext ⟨fun _ => trivial, fun _ => .inr ⟨_, _, rfl⟩⟩
theorem fw_eq4s {a : Str} {e : D} : opEq4 (.str a) e = opEq (.str a) e := rfl
theorem fw_eq4i {a : Int} {e : D} : opEq4 (.int a) e = opEq (.int a) e := rfl
theorem fw_eq4b {a : Bool} {e : D} : opEq4 (.bl a) e = opEq (.bl a) e := rfl
theorem fw_eq4n {e : D} : opEq4 (.non) e = opEq (.non) e := rfl
theorem fw_eq4r {a : Addr} {e : D} : opEq4 (.ref a) e = opEq (.ref a) e := rfl
theorem fw_eq4t {xs : List D} {h : DH} {Q : Bool → DH → Prop} {E : EKt} : (opEq4 (.tup xs) (.tup [])).run h Q E = Q xs.isEmpty h := rfl
end DL
namespace DL
open PySem L2
def Sz (d : D) (w k : Nat) : Prop := pur d = true ∧ sml d = true ∧ (toP d).weight ≤ w ∧ (toP d).depth ≤ k
theorem Sz.le {d : D} {w k w' k' : Nat} (h : Sz d w k) (hw : w ≤ w') (hk : k ≤ k') : Sz d w' k' := ⟨h.1, h.2.1, Nat.le_trans h.2.2.1 hw, Nat.le_trans h.2.2.2 hk⟩
theorem Sz.all {xs : List D} {w k : Nat} (h : ∀ x ∈ xs, Sz x w k) : purs xs = true ∧ smls xs = true ∧ PyData.weightAll (toPs xs) ≤ xs.length * (w + 1) ∧ PyData.depthAll (toPs xs) ≤ k := by
  induction xs with
  | nil => exact ⟨rfl, rfl, Nat.zero_le _, Nat.zero_le _⟩
  | cons x xs ih =>
    obtain ⟨a1, a2, a3, a4⟩ := h x List.mem_cons_self
    obtain ⟨b1, b2, b3, b4⟩ := ih fun y hy => h y (List.mem_cons_of_mem _ hy)
    refine ⟨by rw [purs, a1, b1]; rfl, by rw [smls, a2, b2]; rfl, ?_, ?_⟩
    · rw [toPs, PyData.weightAll, List.length_cons, Nat.succ_mul]; omega
    · rw [toPs, PyData.depthAll]; omega
theorem Sz.tup {xs : List D} {w k m : Nat} (h : ∀ x ∈ xs, Sz x w k) (hl : xs.length ≤ m) : Sz (.tup xs) (m * (w + 1)) (k + 1) := by
  obtain ⟨a1, a2, a3, a4⟩ := Sz.all h
  refine ⟨by rw [pur]; exact a1, by rw [sml]; exact a2, ?_, ?_⟩
  · rw [toP, PyData.weight]; exact Nat.le_trans a3 (Nat.mul_le_mul_right _ hl)
  · rw [toP, PyData.depth]; omega
theorem Sz.cl {xs : List D} {w k m : Nat} (h : ∀ x ∈ xs, Sz x w k) (hl : xs.length ≤ m) : Sz (.cl xs) (m * (w + 1)) (k + 1) := by
  obtain ⟨a1, a2, a3, a4⟩ := Sz.all h
  refine ⟨by rw [pur]; exact a1, by rw [sml]; exact a2, ?_, ?_⟩
  · rw [toP, PyData.weight]; exact Nat.le_trans a3 (Nat.mul_le_mul_right _ hl)
  · rw [toP, PyData.depth]; omega
theorem Sz.str {s : Str} {w k : Nat} (h : PyData.strOk s = true) (hw : s.cps.size ≤ w) : Sz (.str s) w k := ⟨by rw [pur]; exact h, rfl, by rw [toP, PyData.weight]; exact hw, by rw [toP]; exact Nat.zero_le _⟩
theorem Sz.non {w k : Nat} : Sz .non w k := ⟨rfl, rfl, Nat.zero_le _, Nat.zero_le _⟩
theorem Sz.bl {b : Bool} {w k : Nat} : Sz (.bl b) w k := ⟨rfl, rfl, Nat.zero_le _, Nat.zero_le _⟩
theorem Sz.int {i : Int} {w k : Nat} (h : i.natAbs < 10 ^ 12) (hw : 40 ≤ w) : Sz (.int i) w k := by
  refine ⟨rfl, by simp only [sml]; exact decide_eq_true h, ?_, by rw [toP]; exact Nat.zero_le _⟩
  rw [toP, PyData.weight]
  split
  · omega
  · have hz : i.natAbs ≠ 0 := fun z => by
      rename_i c
      exact c (by rw [Int.natAbs_eq_zero.mp z]; rfl)
    have := (Nat.log2_lt hz).mpr (Nat.lt_of_lt_of_le h (by decide : 10 ^ 12 ≤ 2 ^ 40))
    omega
section
variable {h : DH} {E : EKt}
theorem Fr.sub {h h' : DH} (x : Fr h h') : Sub h h' := fun a o e => x a o e id
theorem Sub.fr {h h' : DH} (x : Sub h h') : Fr h h' := fun a o e _ => x a o e
end
end DL
namespace DL
open PySem L2
theorem comp_map {α : Type} {h : DH} {E : EKt} (mk : α → D) (g : α → Option D) (as : List α) {chk : DH → Prop} {body : D → W (Option D)} {Q : D → DH → Prop} (hl : as.length ≤ sizeLine) (hc : ∀ h2, Fr h h2 → chk h2)
    (hb : ∀ a ∈ as, ∀ (h2 : DH) (Q' : Option D → DH → Prop), Fr h h2 → Q' (g a) h2 → (body (mk a)).run h2 Q' E) (q : Q (.cl (as.filterMap g)) h) :
    (W.new (.lst [])).run h (fun p h1 => (compW chk body p (as.map mk)).run h1 (fun _ h2 => (frzQ p).run h2 Q E) E) E := by
  intro p hp
  have main : ∀ (l : List α) (acc : List D), (∀ x ∈ l, x ∈ as) → acc.length + l.length ≤ sizeLine → (compW chk body (.ref p) (l.map mk)).run (h.upd p (.lst acc)) (fun _ h2 => h2 = h.upd p (.lst (acc ++ l.filterMap g))) E := by
    intro l
    induction l with
    | nil => intro acc _ _; exact ⟨hc _ (FrX.new hp), by simp⟩
    | cons x l ih =>
      intro acc hm hz
      rw [List.length_cons] at hz
      refine ⟨hc _ (FrX.new hp), hb x (hm x List.mem_cons_self) _ _ (FrX.new hp) ?_⟩
      cases e : g x with
      | none =>
        show (compW chk body (.ref p) (l.map mk)).run _ _ E
        have := ih acc (fun y hy => hm y (List.mem_cons_of_mem _ hy)) (by omega)
        rw [List.filterMap_cons, e]
        exact this
      | some d =>
        refine ⟨acc, DH.upd_same, by omega, ?_⟩
        rw [show (h.upd p (.lst acc)).upd p (.lst (acc ++ [d])) = h.upd p (.lst (acc ++ [d])) from fv_updupd]
        have := ih (acc ++ [d]) (fun y hy => hm y (List.mem_cons_of_mem _ hy)) (by rw [List.length_append]; simp; omega)
        rw [List.filterMap_cons, e]
        simpa using this
  refine (compW chk body (.ref p) (as.map mk)).mono (fun _ h2 e => ?_) (main as [] (fun _ z => z) (by simpa using hl))
  subst e
  refine new_frz ?_ p hp
  simpa using q
theorem all_map {α : Type} {h : DH} {Q : D → DH → Prop} {E : EKt} (f : α → Bool) (as : List α) (q : Q (.bl (as.all f)) h) : (bAll [.cl (as.filterMap fun a => some (.bl (f a)))]).run h Q E := by
  have e : as.filterMap (fun a => some (D.bl (f a))) = as.map (fun a => D.bl (f a)) := congrFun (List.filterMap_eq_map (f := fun a => D.bl (f a))) as
  rw [e]
  refine ⟨as.map f, ?_, by rw [List.all_map]; exact q⟩
  show (as.map f).map D.bl = as.map fun a => D.bl (f a)
  rw [List.map_map]; rfl
end DL
namespace DL
open PySem PySem.Spec L2
section
variable {X : Cx} {EK : EKt} {K : Gx}
end
section
variable {X : Cx} {EK : EKt} {L C : Type} {Jn : C → Lo} {Jl : L → Lo} {r : Lo} {rest : List Stmt} {pos : Pos}
theorem db_par3 {x y z : Str} {a b e : Expr} {ma mb me : W D} {px py pz pt : Pos} {kt k2 pt2} {k : D → D → D → W (Fl L C)} (i j o : Nat) (hc : X.calm = true) (hN : X.N.Nodup) (hi : X.N[i]? = some x) (hj : X.N[j]? = some y) (ho : X.N[o]? = some z) (hij : i ≠ j) (hio : i ≠ o) (hjo : j ≠ o)
    (hx : X.env.scope.names.lookup x = some .local) (hy : X.env.scope.names.lookup y = some .local) (hz : X.env.scope.names.lookup z = some .local) (ha : DA X EK r [a, b, e] [ma, mb, me])
    (h2 : ∀ c d f, DB X EK Jn Jl (((r.set i (some c)).set j (some d)).set o (some f)) rest (k c d f))
    (hw : swappedStores [.Tuple [.Name x px, .Name y py, .Name z pz] kt pt] (.Tuple [a, b, e] k2 pt2) X.env = pure (some [x, y, z]))
    (hs : swapsWithSole [.Tuple [.Name x px, .Name y py, .Name z pz] kt pt] (.Tuple [a, b, e] k2 pt2) pos.line X.env = pure false := by rfl) :
    DB X EK Jn Jl r (.Assign [.Tuple [.Name x px, .Name y py, .Name z pz] kt pt] (.Tuple [a, b, e] k2 pt2) pos :: rest) (ma.bind fun c => mb.bind fun d => me.bind fun f => k c d f) := by
  let u : TS := fun D σ H => ∃ c d f, tB X.gx EK (((r.set i (some c)).set j (some d)).set o (some f)) Jn Jl (k c d f) D σ H
  have hu : PSs X rest u := ⟨fun p s σ H D I ⟨c, d, f, x⟩ => (h2 c d f).ps.run p s σ H D I x⟩
  refine ⟨pss_weak (pss_cons (ps_par3 hc hN hi hj ho hij hio hjo hx hy hz ha.pa hw hs) hu) ?_⟩
  rintro D σ H ⟨h, l, hr, run⟩
  refine ⟨h, l, hr, ma.mono (fun c h1 run1 => mb.mono (fun d h2 run2 => me.mono (fun f h3 q vs H' e hr' rp => ?_) run2) run1) run⟩
  obtain ⟨v, w, t, rfl, rv, rw', rt⟩ := reps3 rp
  exact ⟨v, w, t, rfl, c, d, f, h3, (((l.mono e).set rv).set rw').set rt, hr', (k c d f).mono (fun fl2 h2 q2 σ2 H2 e2 hr2 => q2 σ2 H2 (e.trans e2) hr2) q⟩
end
end DL
namespace DL
open PySem PySem.Spec L2
section
variable {X : Cx} {pins : List (Addr × Obj)} {σ : L2.St} {H : Hp} {s : Shared} {a : Addr} {vs : List V}
theorem Inv.plain (I : L2.Inv X pins σ H s) (h : SqT X.K H a vs) (p : PlT X.K H a) : ∃ (its : List Value) (n : Nat) (o : Obj), Vals vs its ∧ vs.length ≤ sizeLine ∧ s.heap.get? a = some o ∧ o.cls = .type "tuple" ∧ o.dict = none ∧ o.data = .seq its.toArray n := by
  obtain ⟨its, r, ⟨o, ho, hc, n, hd⟩, z⟩ := I.tuple h
  refine ⟨its, n, o, r, z, ho, hc, ?_, hd⟩
  rcases p with ⟨o', u, e, _, k⟩ | ⟨o', e, _, k⟩
  · obtain ⟨g, _⟩ := I.hok a _ e
    rw [ho] at g; cases g; exact k
  · have g := I.kIn a o' e
    rw [ho] at g; cases g; exact k
theorem call_dictT (hcalm : X.calm = true) : CallR X (.type "dict") (fun xs H Q => ∃ (a : Addr) (ps : List Addr) (kvs : List (Key × V)), xs = [.ref a] ∧ SqT X.K H a (ps.map V.ref) ∧ PlT X.K H a ∧ Paired (fun p kv => SqT X.K H p [kV kv.1, kv.2]) ps kvs ∧
    ∀ p, H p = none → Q (.ref p) (L2.upd H p (.dK (mergeK [] kvs)))) := by
  intro pins s σ H xs us Q I r ⟨a, ps, kvs, ex, ht, pl, hp, q⟩
  subst ex
  obtain ⟨u, rfl, rx⟩ := vals1 r
  cases rx
  obtain ⟨its, n, o, rv, z, ho, hc, hdn, hd⟩ := Inv.plain I ht pl
  have ei := refs_at rv
  subst ei
  obtain ⟨prs, rel, hl, hpr⟩ := pairs_of I hp
  have keys : ∀ L, L ≤ prs.length → ∃ us : List Value, us.length = L ∧ ∀ j q, j < L → prs[j]? = some q → ∃ b u, ps[j]? = some b ∧ us[j]? = some u ∧ PyProof.Rows.IsTup s.heap b #[u, q.2] ∧ keyIs q.1 u = true := by
    intro L
    induction L with
    | zero => exact fun _ => ⟨[], rfl, fun j q h => absurd h (Nat.not_lt_zero j)⟩
    | succ L ih =>
      intro h
      obtain ⟨us, l1, h1⟩ := ih (by omega)
      have hL : L < prs.length := h
      obtain ⟨b, u, e1, e2, e3⟩ := hpr L prs[L] (List.getElem?_eq_getElem hL)
      refine ⟨us ++ [u], by rw [List.length_append, l1]; rfl, fun j q hj e => ?_⟩
      rcases Nat.lt_or_ge j L with c | c
      · obtain ⟨b', u', f1, f2, f3⟩ := h1 j q c e
        exact ⟨b', u', f1, by rw [List.getElem?_append_left (by omega)]; exact f2, f3⟩
      · have : j = L := by omega
        subst this
        rw [List.getElem?_eq_getElem hL] at e
        cases e
        exact ⟨b, u, e1, by rw [List.getElem?_append_right (by omega), l1, Nat.sub_self]; rfl, e2, e3⟩
  obtain ⟨us, lu, hk⟩ := keys prs.length (Nat.le_refl _)
  let W : List (Value × Value) := us.zip (prs.map (·.2))
  have lW : W.length = prs.length := by show (us.zip _).length = _; rw [List.length_zip, List.length_map, lu, Nat.min_self]
  have wat : ∀ (j : Nat) (k v : Value), W[j]? = some (k, v) → ∃ b q, prs[j]? = some q ∧ q.2 = v ∧ ps[j]? = some b ∧ PyProof.Rows.IsTup s.heap b #[k, v] ∧ keyIs q.1 k = true := fun j k v e => by
    obtain ⟨e1, e2⟩ := List.getElem?_zip_eq_some.mp e
    rw [List.getElem?_map] at e2
    obtain ⟨q, hq, e3⟩ := Option.map_eq_some_iff.mp e2
    have e3' : q.2 = v := e3
    subst e3'
    obtain ⟨b, u, f1, f2, f3, f4⟩ := hk j q (List.getElem?_eq_some_iff.mp hq).1 hq
    rw [e1] at f2; cases f2
    exact ⟨b, q, hq, rfl, f1, f3, f4⟩
  have P := PairArg.tuple (prog := X.prog) (w := X.w) a (ps.map Value.ref).toArray (fun j => ps.getD j 0) W
  refine PySem.call_dict_pairs (knd := mixKind X.prog X.w) (kvs := prs) P (I.ok.hd hcalm) ⟨⟨o, n, ho, hc, hdn, hd⟩, ?_, ?_⟩ ⟨lW.symm, ?_⟩ (by rw [lW, hl]; rw [List.length_map] at z; exact z) fun h' tk hd' k => ?_
  · rw [List.size_toArray, List.length_map, lW, hl]
  · intro j k v e
    obtain ⟨b, q, _, _, f1, f2, _⟩ := wat j k v e
    have eb : ps.getD j 0 = b := by rw [List.getD_eq_getElem?_getD, f1]; rfl
    refine ⟨by show _ = some (Value.ref (ps.getD j 0)); rw [eb]; simp [f1], .inl ?_⟩
    show s.heap.IsTuple (ps.getD j 0) _
    rw [eb]; exact f2
  · intro j k v e
    obtain ⟨b, q, hq, hv, _, _, f4⟩ := wat j k v e
    subst hv
    exact ⟨q.1, hq, f4⟩
  · have hm : (s.heap.objs.size == sysModules) = false := beq_eq_false_iff_ne.mpr (Nat.ne_of_gt I.big)
    have len : (mergeK [] kvs).length ≤ sizeLine := by
      have a1 := length_mergeK kvs []
      have a2 := rel.length
      rw [List.length_map] at z
      rw [List.length_nil] at a1
      omega
    have fr : H s.heap.objs.size = none := I.hok.fresh (Nat.le_refl _)
    exact ⟨.ref s.heap.objs.size, _, I.laid (t' := tk) (o := .dK (mergeK [] kvs)) (fun b ob e => k b ob (by simp) e) (Nat.le_refl _) ⟨len, hm, merged [] prs, KV.merge rel .nil, hd'⟩, rfl, q _ fr⟩
end
end DL
namespace DL
open PySem PySem.Spec L2
section
variable {prog : Program} {w : World} {A : Around} {E : Value → Shared → Prop} {s : Shared} {zz a b i1 i2 T0 : Addr} {fl : Bool} {fp1 fp2 : List Addr} {n1 n2 i : Nat} {P1 P2 : Nat → Value → Prop} {St1 St2 : Nat → Heap → Prop} {oT : Obj}
end
end DL
namespace DL
open PySem PySem.Spec L2
section
variable {prog : Program} {w : World} {A : Around} {E : Value → Shared → Prop} {s : Shared} {zz a b i1 i2 d : Addr} {fp1 fp2 : List Addr} {n1 n2 i : Nat} {P1 P2 : Nat → Value → Prop} {St1 St2 : Nat → Heap → Prop}
end
end DL
namespace DL
open PySem PySem.Spec L2 PySem.Calls PyProof.Rows PyProof.V
section
variable {prog : Program} {w : World} {A : Around} {E : Value → Shared → Prop} {s : Shared} {zz a b i1 i2 d : Addr} {fp1 fp2 : List Addr} {n1 n2 : Nat} {P1 P2 : Nat → Value → Prop} {St1 St2 : Nat → Heap → Prop}
end
end DL
namespace DL
open PySem PySem.Spec L2
open PyProof.Rows (Call_)
section
variable {X : Cx} {pins : List (Addr × Obj)} {σ : L2.St} {H H0 : Hp} {s s0 : Shared}
end
section
variable {X : Cx} {e1 e2 : Expr} {ta : TA} {p0 p1 pos0 pos1 : Pos}
end
end DL
namespace DL
open PySem PySem.Spec L2
open PyProof.Rows (Call_)
section
variable {X : Cx} {pins : List (Addr × Obj)} {σ : L2.St} {H : Hp} {s : Shared} {A : Around} {xs ys : List V} {sd : Sd}
def Sd.seq : Sd → Bool
  | .s _ => false
  | _ => true
theorem Sd.there (I : L2.Inv X pins σ H s) (q : sd.sq X.K H xs) : ∀ c, sd.u = some c → ∃ o, s.heap.get? c = some o := by
  intro c hc
  cases sd with
  | l a => cases hc; obtain ⟨its, _, ⟨o, n, e, _⟩, _⟩ := I.list q; exact ⟨o, e⟩
  | t a => cases hc; obtain ⟨its, _, ⟨o, e, _⟩, _⟩ := I.tuple q; exact ⟨o, e⟩
  | s z => cases hc
end
end DL
namespace DL
open PySem PySem.Spec L2
open PyProof.Rows (Call_)
section
variable {X : Cx} {e1 e2 : Expr} {ta : TA} {p0 p1 pos0 pos1 : Pos}
end
end DL
namespace DL
open PySem PySem.Spec L2
theorem np_pairs : ∀ {xs : List D} {kvs : List (Key × D)}, pairsD xs = some kvs → np xs = true → False
  | [], _, _, h => by cases h
  | d :: xs, kvs, e, h => by
    unfold pairsD at e
    split at e
    · cases ‹d :: xs = []›
    · rename_i k v r he; cases he; cases h
    · cases e
def bDictT : List D → W D
  | [.tup xs] => ⟨fun h Q _ => ∃ kvs, pairsD xs = some kvs ∧ ∀ p, h p = none → Q (.ref p) (h.upd p (.dK (mergeD [] kvs))), fun g ⟨l, e, k⟩ => ⟨l, e, fun p hp => g _ _ (k p hp)⟩⟩
  | _ => W.fail
def rDictT (K : PySem.W.Frag) : List V → Hp → VK → Prop := fun xs H Q => ∃ (a : Addr) (ps : List Addr) (kvs : List (Key × V)), xs = [.ref a] ∧ SqT K H a (ps.map V.ref) ∧ PlT K H a ∧ Paired (fun p kv => SqT K H p [kV kv.1, kv.2]) ps kvs ∧ ∀ p, H p = none → Q (.ref p) (L2.upd H p (.dK (mergeK [] kvs)))
section
variable {X : Cx} {EK : EKt} {K : Gx}
theorem s_dictT : SimL K EK (rDictT K.K) bDictT := fun H h xs ds Q hr rp run => by
  unfold bDictT at run
  split at run
  · obtain ⟨kvs, e, run⟩ := run
    obtain ⟨v, rfl, rv⟩ := reps1 rp
    cases rv with
    | tup sq rr =>
      obtain ⟨ps, l, rfl, h1, h2⟩ := pairs_V rr e
      refine ⟨_, ps, l, rfl, sq.1, sq.2.elim id fun z => (np_pairs e z).elim, h1, fun q hq => run q (hr.none hq) _ _ (Ext.laid hq) (hr.laid hq ⟨_, upd_same, ?_⟩) (.ref q)⟩
      exact ent_mono (merge_rel h2 .nil) (Ext.laid hq)
  · exact run.elim
def bDict4 (ds : List D) : W D := W.alt (bDict ds) (bDictT ds)
theorem call_dict4 (hc : X.calm = true) : CallR X (.type "dict") (fun xs H Q => rDictP X.K xs H Q ∨ rDictT X.K xs H Q) := (call_dictP hc).or (call_dictT hc)
theorem s_dict4 : SimL K EK (fun xs H Q => rDictP K.K xs H Q ∨ rDictT K.K xs H Q) bDict4 := simL_alt s_dict s_dictT
end
def bDictF4 : List D → W D
  | [.cl xs] => ⟨fun h Q _ => ∃ kvs, pairsD xs = some kvs ∧ Q (.dk ((mergeD [] kvs).map Prod.fst) ((mergeD [] kvs).map Prod.snd)) h, fun g ⟨l, e, k⟩ => ⟨l, e, g _ _ k⟩⟩
  | [.tup xs] => ⟨fun h Q _ => ∃ kvs, pairsD xs = some kvs ∧ Q (.dk ((mergeD [] kvs).map Prod.fst) ((mergeD [] kvs).map Prod.snd)) h, fun g ⟨l, e, k⟩ => ⟨l, e, g _ _ k⟩⟩
  | _ => W.fail
theorem frzN_dK {h : DH} {kvs : List (Key × D)} {Q : D → DH → Prop} {E : EKt} (q : Q (.dk (kvs.map Prod.fst) (kvs.map Prod.snd)) h) : ∀ p, h p = none → (frzQ (.ref p)).run (h.upd p (.dK kvs)) Q E := fun p hp => by
  refine ⟨_, DH.upd_same, ?_⟩
  show Q _ ((h.upd p _).del p)
  rw [DH.upd_del hp]; exact q
theorem dictF4_ok {h : DH} {ds : List D} {Q : D → DH → Prop} {EK : EKt} (q : (bDictF4 ds).run h Q EK) : ((bDict4 ds).bind frzQ).run h Q EK := by
  unfold bDictF4 at q
  split at q
  · obtain ⟨kvs, e, q⟩ := q
    exact .inl ⟨_, kvs, rfl, e, fun p hp => frzN_dK q p hp⟩
  · obtain ⟨kvs, e, q⟩ := q
    exact .inr ⟨kvs, e, fun p hp => frzN_dK q p hp⟩
  · exact q.elim
def SeqN (h : DH) (d : D) (xs : List D) : Prop := match d with
  | .tup ys => xs = ys
  | .cl ys => xs = ys
  | .ref a => h a = some (.lst xs)
  | _ => False
theorem SeqN.side {K : Gx} {H : Hp} {h : DH} {x : V} {d : D} {xs : List D} (hr : HRel K H h) (r : Rep K H x d) (i : SeqN h d xs) : ∃ sd vs, SdV sd x ∧ sd.sq K.K H vs ∧ sd.seq = true ∧ Reps K H vs xs := by
  cases d with
  | tup ys =>
    have i' : xs = ys := i
    subst i'
    cases r with
    | @tup a vs _ s rr => exact ⟨.t a, vs, rfl, s.1, rfl, rr⟩
  | cl ys =>
    have i' : xs = ys := i
    subst i'
    cases r with
    | @cl a vs _ s rr => exact ⟨.l a, vs, rfl, s.list, rfl, rr⟩
  | ref a =>
    obtain ⟨vs, hv, rr⟩ := hr a _ i
    cases r
    exact ⟨.l a, vs, rfl, SqL.of hv, rfl, rr⟩
  | _ => exact (show False from i).elim
section
variable {X : Cx} {EK : EKt} {r : Lo} {e1 e2 : Expr} {ma mb : W D} {p0 p1 pos0 pos1 : Pos}
end
end DL
namespace DL
open PySem PySem.Spec L2
open PyProof.Rows (envOfC)
section
variable {P : Program} {w : World} {K : PySem.W.Frag} {mg : Str → Option Value} {base : Heap} {x qual : Str} {st : Stmt} {f : Addr} {fd : FuncData} {N ps : List Str} {k : Nat}
def FnS (P : Program) (w : World) (K : PySem.W.Frag) (mg : Str → Option Value) (base : Heap) (CX : CXT) (k : Nat) (f : Addr) (sp : Sp) : Prop :=
  ∀ (A : Around) (outer : List Env) (s : Shared) (H : Hp) (us : List Value) (vs : List V) (Q : VK) (E : XK), A.guards = some [] → Room k A → Env0 P w K mg base A outer s H → Vals vs us → sp vs H Q E → codeAny (model P w) A (.call (.ref f) ⟨us, []⟩) (CR CX outer P w H s Q E) s
end
end DL
namespace DL
open PySem PySem.Spec L2
section
variable {X : Cx} {pins : List (Addr × Obj)} {σ : L2.St} {H : Hp} {s : Shared} {Q : VK} {us : List Value} {vs : List V} {k : Nat} {C g : Addr} {fn : List D → W D} {r : Lo} {x0 : Str} {p0 pos : Pos} {e : Expr} {es : List Expr} {ms : List (W D)}
end
end DL
namespace DL
open PySem PySem.Spec L2
section
variable {P : Program} {w : World} {K : PySem.W.Frag} {mg : Str → Option Value} {base : Heap} {x qual : Str} {st : Stmt} {f T : Addr} {fd : FuncData} {k n : Nat}
theorem FnG.mono {sp : Sp} {j : Nat} {ps : List Str} (F : FnG P w K mg base CX0 j f fd ps sp) (h : j ≤ k) : FnG P w K mg base CX0 k f fd ps sp := ⟨F.len, fun A outer s H args us vs Q E hg hr => F.run A outer s H args us vs Q E hg (hr.mono h)⟩
theorem FnS.mono {sp : Sp} {j : Nat} (F : FnS P w K mg base CX0 j f sp) (h : j ≤ k) : FnS P w K mg base CX0 k f sp := fun A outer s H us vs Q E hg hr => F A outer s H us vs Q E hg (hr.mono h)
end
end DL
namespace DL
theorem mem_look {α : Type} {n : PySem.Str} {v : α} : ∀ {l : List (PySem.Str × α)}, l.lookup n = some v → (n, v) ∈ l
  | [], h => by cases h
  | (a, b) :: l, h => by
    rw [List.lookup_cons] at h
    split at h
    · rename_i e
      have e' : n = a := by simpa using e
      cases h; rw [e']; exact List.mem_cons_self
    · exact List.mem_cons_of_mem _ (mem_look h)
end DL
namespace DL
open PySem PySem.Spec L2
section
variable {X : Cx} {EK : EKt} {L C : Type} {Jn : C → Lo} {Jl : L → Lo} {r : Lo} {rest : List Stmt} {e o : Expr} {m mo : W D} {pos p1 p2 p3 : Pos} {kk : Nat} {ns : List Str} {f x : Str}
end
end DL
namespace DL
open PySem PySem.Spec L2
section
variable {X : Cx} {EK : EKt} {K : Gx}
end
end DL
namespace DL
open PySem PySem.Spec L2
section
variable {X : Cx} {EK : EKt} {L C : Type} {Jn : C → Lo} {Jl : L → Lo} {r : Lo} {sts : List Stmt}
end
end DL
namespace DL
open PySem PySem.Spec L2
section
variable {X : Cx} {EK : EKt} {L C : Type} {Jn : C → Lo} {Jl : L → Lo} {r : Lo} {rest : List Stmt} {e o i : Expr} {m mo mi : W D} {pos tpos p1 p2 p3 : Pos} {kk : Nat} {es : List Expr} {ms : List (W D × W D)} {x : Str}
end
end DL
namespace DL
open PySem PySem.Spec L2
theorem Reps.erase {K : Gx} {H : Hp} : ∀ {vs : List V} {ds : List D}, Reps K H vs ds → ∀ k, Reps K H (vs.eraseIdx k) (ds.eraseIdx k)
  | _, _, .nil, _ => .nil
  | _, _, .cons _ b, 0 => b
  | _, _, .cons a b, k + 1 => .cons a (Reps.erase b k)
section
variable {X : Cx} {EK : EKt} {K : Gx}
end
section
variable {X : Cx} {EK : EKt} {K : Gx}
end
end DL
namespace DL
open PySem PySem.Spec L2
def isE : O → W Bool
  | .lst xs => W.pure xs.isEmpty
  | _ => W.fail
def opEq5 : D → D → W Bool
  | .ref a, .cl [] => atO a isE
  | .cl xs, .cl [] => W.pure xs.isEmpty
  | d, e => opEq4 d e
@[reducible] def opNe5 (d e : D) : W Bool := (opEq5 d e).bind fun b => W.pure (!b)
section
variable {X : Cx} {EK : EKt} {K : Gx}
theorem s_ne5 : SimC K EK (fun x y H Q => (rNeA K.K x y H Q ∨ rNeLen K.K x y H Q) ∨ rEqT0 K.K true x y H Q) opNe5 := fun H h x y d e Q hr rx ry run => by
  unfold opNe5 opEq5 at run
  split at run
  · rename_i a
    obtain ⟨o, ho, run⟩ := run
    cases o with
    | lst xs =>
      cases xs with
      | nil =>
        refine s_ne4 (EK := EK) H h x y _ _ Q hr rx ry ?_
        exact ⟨.list [], .list [], .lst ho .nil, .cl .nil, by decide +kernel, by decide +kernel, run⟩
      | cons d xs =>
        obtain ⟨vs, hv, rr⟩ := hr a _ ho
        cases ry with
        | cl s2 r2 =>
          cases r2
          cases rx
          exact .inl (.inr ⟨_, _, _, _, rfl, rfl, SqL.of hv, s2.list, by rw [rr.length]; simp, run H Ext.refl hr⟩)
    | _ => exact run.elim
  · rename_i xs
    cases xs with
    | nil =>
      refine s_ne4 (EK := EK) H h x y _ _ Q hr rx ry ?_
      exact ⟨.list [], .list [], .cl .nil, .cl .nil, by decide +kernel, by decide +kernel, run⟩
    | cons d xs =>
      refine s_ne4 (EK := EK) H h x y _ _ Q hr rx ry ?_
      exact run
  · exact s_ne4 (EK := EK) H h x y _ _ Q hr rx ry run
theorem fx_eq5r {a : Addr} {h : DH} {Q : Bool → DH → Prop} {E : EKt} : (opEq5 (.ref a) (.cl [])).run h Q E = (∃ o, h a = some o ∧ (isE o).run h Q E) := rfl
theorem fx_isE {xs : List D} {h : DH} {Q : Bool → DH → Prop} {E : EKt} : (isE (.lst xs)).run h Q E = Q xs.isEmpty h := rfl
theorem fx_eq5c {xs : List D} {h : DH} {Q : Bool → DH → Prop} {E : EKt} : (opEq5 (.cl xs) (.cl [])).run h Q E = Q xs.isEmpty h := rfl
end
end DL
namespace DL
open PySem PySem.Spec L2
open PyProof.Rows (envOfC)
section
variable {X : Cx} {EK : EKt} {K : Gx}
end
section
variable {P : Program} {w : World} {K : PySem.W.Frag} {mg : Str → Option Value} {base : Heap} {x qual : Str} {st : Stmt} {f : Addr} {fd : FuncData} {N ps : List Str} {k : Nat}
end
section
variable {X : Cx} {pins : List (Addr × Obj)} {σ : L2.St} {H : Hp} {s : Shared} {Q : VK} {us : List Value} {vs : List V} {k : Nat} {C g : Addr} {fn : List D → W D} {r : Lo} {x0 : Str} {p0 pos : Pos} {kws : List Keyword} {ms : List (W D)} {kn : List Str}
end
end DL
namespace DL
open PySem PySem.Spec L2
section
variable {P : Program} {w : World} {K : PySem.W.Frag} {mg : Str → Option Value} {base : Heap} {f : Addr} {k n : Nat} {kn : List Str}
end
end DL
namespace DL
open PySem PySem.Spec L2
section
variable {X : Cx} {EK : EKt} {r : Lo} {e : Expr} {m : W D} {p p2 pos pos2 : Pos}
end
end DL
namespace DL
open PySem PySem.Spec L2 PyProof.Rows
structure XRel (K : Gx) (H : Hp) (cls : Value) (d : Option Addr) (ex : Ex) : Prop where
  c : ∃ C, K.mg ex.1 = some (.ref C) ∧ cls = .ref C
  v : match ex.2 with
    | none => d = none
    | some w => ∃ dd f u x, d = some dd ∧ H dd = some (.xd [(f, u)]) ∧ Rep K H u x ∧ w = .tup [.str f, x]
def XP (K : Gx) (Wx : WX) (r0 : Lo) (H : Hp) (EK : EKt) : Prop := ∀ ex h' cls d σ' H', LRel K H' r0 σ' → XRel K H' cls d ex → Ext K H H' → HRel K H' h' → EK ex h' → Wx cls d σ' H'
theorem XP.mono {K : Gx} {Wx : WX} {r0 : Lo} {H H1 : Hp} {EK : EKt} (x : XP K Wx r0 H EK) (e : Ext K H H1) : XP K Wx r0 H1 EK := fun ex h' cls d σ' H' a b c d' f => x ex h' cls d σ' H' a b (e.trans c) d' f
@[reducible] def W.nox {α : Type} (m : W α) : W α := ⟨fun h Q _ => m.run h Q EK0, fun g x => m.mono g x⟩
section
variable {X : Cx} {Wx : WX} {r0 r : Lo} {e c : Expr} {m : W D} {L C C' : Type} {Jn : C → Lo} {Jl : L → Lo} {rest sts A B : List Stmt} {pos : Pos}
end
section
variable {P : Program} {w : World} {K : PySem.W.Frag} {mg : Str → Option Value} {base : Heap}
end
section
variable {X : Cx} {Wx : WX} {L C : Type} {Jn : C → Lo} {Jl : L → Lo} {r r0 : Lo} {rest : List Stmt} {pos : Pos}
end
end DL
namespace DL
open PySem PySem.Spec L2 PyProof.Rows
section
variable {X : Cx} {k : Nat} {g C : Addr} {fd : FuncData} {ps : List Str} {sp : Sp} {E : L2.St → XK} {x m : Str} {p pos apos : Pos} {e o : Expr} {es : List Expr} {ta : TE} {t : TA} {Wx : WX}

end
section
variable {X : Cx} {Wx : WX} {EK : EKt} {r r0 : Lo} {e o : Expr} {es : List Expr} {mo : W D} {ms : List (W D)} {pos p apos : Pos} {k : Nat} {g : Addr} {fd : FuncData} {ps : List Str} {x m n : Str} {f fn : List D → W D} {c : Nat} {dvs : List V} {dds : List D} {ds : List Value}
end
end DL
namespace DL
open PySem PySem.Spec L2 PyProof.Rows
section
variable {X : Cx} {L C C' : Type} {Jn : C → Lo} {Jl : L → Lo} {J1 : C' → Lo} {r r0 : Lo} {rest body suite : List Stmt} {b₀ : Stmt} {np pos pos' : Pos} {mb : W (Fl L C')} {hd : Addr → Ex → W (Fl L C')} {k : C' → W (Fl L C)}
end
end DL
namespace DL
open PySem PySem.Spec L2 PyProof.Rows
end DL
namespace DL
open PySem PySem.Spec L2 PyProof.Rows
end DL
namespace DL
open PySem PySem.Spec L2 PyProof.Rows
section
variable {X : Cx} {r : Lo} {e : Expr} {es : List Expr} {kws : List Keyword} {ms ks : List (W D)} {pos p : Pos} {k : Nat} {g : Addr} {fd : FuncData} {ps kn : List Str} {x : Str} {f o : List D → W D} {n np : Nat} {gi : List Nat} {dvs : List V} {dds : List D}
end
end DL
namespace DL
open PySem L2
section
variable {X : Cx} {EK : EKt} {L C : Type} {Jn : C → Lo} {Jl : L → Lo} {r : Lo} {rest : List Stmt} {e : Expr} {m : W D} {pos pos' : Pos}
end
end DL
namespace DL
open PySem L2
section
variable {X : Cx} {EK : EKt} {L C : Type} {Jn : C → Lo} {Jl : L → Lo} {r : Lo} {rest : List Stmt}
end
end DL
namespace DL
open PySem PySem.Spec L2 PySem.SeqAt
section
open AutoSeq1 (wpAny_loadPart')
open MeetsSeq
end
section
variable {X : Cx} {EK : EKt} {K : Gx}
end
end DL
namespace DL
open PySem PySem.Spec L2
section
open Sem (wp)
open AutoSeq1 (wpAny_loadPart')
set_option maxHeartbeats 1000000 in
theorem meets_enumerate_newT {v : Value} {o : Obj} {H : Heap → Prop} (B : Begins v o H) :
    Meets (Builtin.«enumerate.__new__» ⟨[.type "enumerate", v], []⟩) (fun _ R s => H s.heap ∧
      R (.ok (.ret (.ref (s.heap.push o).objs.size))) { s with heap := (s.heap.push o).push { cls := .type "enumerate", data := .fields #[.none, .bool false, .ref s.heap.objs.size, rawInt 0, .none, .none] } }) :=
  .of_wp fun prog w A R s h => by
    obtain ⟨hp, g, d, tk, os⟩ := s; obtain ⟨h1, h⟩ := h
    have hsub := sub_enumerate
    have q1 : ∀ {A' : Around} {E : Value → Shared → Prop} {Q : Value → Shared → Prop}, Q (.ref hp.objs.size) ⟨hp.push o, g, d, tk, os⟩ → wpAny (model prog w) A' (pyIter v) Q E ⟨hp, g, d, tk, os⟩ :=
      fun q => B.iter prog w _ _ ⟨hp, g, d, tk, os⟩ _ h1 q
    wp_walk using q1
    refine wpAny_stack_any fun st => wpAny_pure ?_
    split
    · rename_i c _ _ _ _ _
      cases (c == Value.type "enumerate")
      · wp_walk using q1
        exact ⟨_, rfl, h⟩
      · wp_walk using q1
        exact ⟨_, rfl, h⟩
    · wp_walk using q1
      exact ⟨_, rfl, h⟩
section
variable {prog : Program} {w : World} {A : Around} {E : Value → Shared → Prop} {s : Shared}
theorem call_enumerate_B {v : Value} {o : Obj} {H : Heap → Prop} {Q : Value → Shared → Prop} (B : Begins v o H) (h1 : H s.heap)
    (h : ∀ h', IsEnum h' (s.heap.objs.size + 1) s.heap.objs.size 0 .none → h'.get? s.heap.objs.size = some o → h'.objs.size = s.heap.objs.size + 2 →
      (∀ b o, s.heap.get? b = some o → h'.get? b = some o) → Q (.ref (s.heap.objs.size + 1)) { s with heap := h' }) :
    wpAny (model prog w) A (call (.type "enumerate") [v]) Q E s := by
  refine callType_new F.called_enumerate (by decide) (F.typeCall_enumerate_1 _) (F.newCall_enumerate_1 _) (fun obj => F.args_object_init_2 obj _) F.entry_enumerate_new
    (meets_enumerate_newT B) ⟨h1, ?_⟩
  have hz : (s.heap.push o).objs.size = s.heap.objs.size + 1 := Heap.size_push ..
  show _ ∧ _
  rw [hz]
  have he : IsEnum ((s.heap.push o).push { cls := .type "enumerate", data := .fields #[.none, .bool false, .ref s.heap.objs.size, rawInt 0, .none, .none] }) (s.heap.objs.size + 1) s.heap.objs.size 0 .none := by
    have := Heap.get?_push_size (s.heap.push o) (o := { cls := .type "enumerate", data := .fields #[.none, .bool false, .ref s.heap.objs.size, rawInt 0, .none, .none] }) rfl
    rw [hz] at this; exact this
  refine ⟨⟨_, he, rfl⟩, h _ he (Heap.get?_push_of_some _ (Heap.get?_push_size _ B.free)) (by rw [Heap.size_push, hz]) fun b o x => Heap.get?_push_of_some _ (Heap.get?_push_of_some _ x)⟩
end
end
def IteT (K : PySem.W.Frag) (a : Addr) : It :=
  ⟨fun i H => ∃ (xs : List V) (x : V), SqT K H a xs ∧ xs[i]? = some x, fun i H v H' => ∃ T x, v = .ref T ∧ H T = none ∧ H' = upd H T (.tup [.int (i : Nat), x]) ∧ ∀ xs, SqT K H a xs → xs[i]? = some x, fun i H => ∃ xs : List V, SqT K H a xs ∧ xs.length = i⟩
theorem turn_enumT {P : Program} {w : World} {K : PySem.W.Frag} {elts : List Expr} {kk : Nat} {tpos : Pos} (a e it : Addr) (hai : a ≠ it) (hea : e ≠ a) :
    Turn P w K (.Tuple elts kk tpos) (IteT K a) [e, it] e (fun i h => (∃ old, IsEnum h e it ((i : Nat) : Int) old) ∧ h.IsTupleIter it a i ∧ e ≠ it) where
  mem := by simp
  obj := fun i h st b hb => by
    obtain ⟨⟨old, he⟩, ⟨o, ho, hc, hd⟩, _⟩ := st
    have e' : b = e ∨ b = it := by simpa using hb
    rcases e' with z | z
    · rw [z]; exact ⟨_, he, fun v q => nomatch q⟩
    · rw [z]; exact ⟨o, ho, fun v q => by rw [hd] at q; cases q⟩
  keep := fun i h h' st k => let ⟨⟨old, he⟩, hi, hne⟩ := st; ⟨⟨old, k e (by simp) _ he⟩, hi.at fun o q => k it (by simp) o q, hne⟩
  item := by
    intro X hP hw hK hc i pins s σ H E I hf st hg
    subst hP hw hK
    obtain ⟨⟨old, he⟩, hit, hne⟩ := st
    obtain ⟨xs, x, hq, hx⟩ := hg
    obtain ⟨its, rv, p, hz⟩ := I.tuple hq
    obtain ⟨u, hu, ru⟩ := rv.get hx
    have hel : e < s.heap.objs.size := Heap.lt_size he
    have hil : it < s.heap.objs.size := by obtain ⟨_, q, _⟩ := hit; exact Heap.lt_size q
    have hh : X.A.in1.handled = none := I.ok.hd hc
    have hlt : i < its.toArray.size := by
      have := (List.getElem?_eq_some_iff.mp hu).1
      simpa using this
    have D := Draws.tuple (prog := X.prog) (w := X.w) hh it a hai its.toArray
    refine wpAny_pyNext_enum_itemD (old := old) D he ⟨hit, p⟩ hlt hne (by simpa using ⟨hne, hea⟩) fun x1 h' tk hx1 ho st' hT hsz hk => ?_
    obtain ⟨hit', p'⟩ := st'
    have ex1 : x1 = u := by
      have h1 : its[i]? = some x1 := by simpa using hx1
      rw [hu] at h1; exact (Option.some.inj h1).symm
    subst ex1
    refine ⟨_, rfl, wpAny_letOwnedTupleGo_enum (s := { s with heap := h', toks := tk + 1 }) ho fun h'' he' sb => ?_⟩
    have hT2 : h''.get? s.heap.objs.size = some { cls := .type "tuple", data := .seq #[.int i tk, x1] } := (sb.2 _ (Nat.ne_of_gt hel)).trans hT
    have new : ObjOk X.prog X.w (upd H s.heap.objs.size (.tup [.int (i : Nat), x])) h'' s.heap.objs.size (.tup [.int (i : Nat), x]) :=
      ⟨by show 2 ≤ sizeLine; decide, [.int i tk, x1], .cons ⟨_, rfl⟩ (.cons ru .nil), ⟨_, hT2, rfl, _, rfl⟩⟩
    have I1 : Inv X pins σ (upd H s.heap.objs.size (.tup [.int (i : Nat), x])) { s with heap := h'', toks := tk + 1 } :=
      I.turnedNew (ch := [e, it]) (fun b ob hb q => (sb.2 b (fun z => hb (by simp [z]))).trans (hk b ob (fun z => hb (by simp [z])) (fun z => hb (by simp [z])) q)) hf (Nat.le_refl _) new
    refine ⟨.ref s.heap.objs.size, _, I1, rfl, ⟨_, x, rfl, I.hok.fresh (Nat.le_refl _), rfl, fun ys hy => by rw [I.tuple_inj hy hq]; exact hx⟩, ⟨⟨x1, ?_⟩, hit'.at fun o q => (sb.2 it (Ne.symm hne)).trans q, hne⟩, fun b hb => ?_⟩
    · have e1 : ((i + 1 : Nat) : Int) = (i : Int) + 1 := by omega
      rw [e1]; exact he'
    · have hb' : b < s.heap.objs.size := by
        have e' : b = e ∨ b = it := by simpa using hb
        rcases e' with z | z
        · rw [z]; exact hel
        · rw [z]; exact hil
      rw [upd_ne (Nat.ne_of_lt hb')]
      exact (hf b hb).1
  done := by
    intro X hP hw hK hc i pins s σ H E I hf st hg
    subst hP hw hK
    obtain ⟨⟨old, he⟩, hit, hne⟩ := st
    obtain ⟨xs, hq, hx⟩ := hg
    obtain ⟨its, rv, p, hz⟩ := I.tuple hq
    have hl := rv.length
    have hh : X.A.in1.handled = none := I.ok.hd hc
    have D := Draws.tuple (prog := X.prog) (w := X.w) hh it a hai its.toArray
    obtain ⟨f0, f1, f2, f3, f4, f5⟩ := hf it (by simp)
    have e0 : its.toArray.size = i := by rw [List.size_toArray, ← hl]; exact hx
    rw [e0] at D
    exact wpAny_pyNext_enum_endD D he ⟨hit, p⟩ fun h' eb => ⟨rfl, I.turned (t' := s.toks) (fun b o hb q => eb b o hb q) f0 f1 f3 f4 f5⟩
  self := fun A i s Q E st h => let ⟨⟨_, he⟩, _⟩ := st; wpAny_pyIter_enum he h
def iEnumS (K : PySem.W.Frag) (ta : TA) : TI := fun σ H R => ta σ H fun vs H1 => (∃ a xs, vs = [.ref a] ∧ SqL K H1 a xs ∧ R (Ite K a) H1) ∨ ∃ a xs, vs = [.ref a] ∧ SqT K H1 a xs ∧ R (IteT K a) H1
open PyProof.Rows (Call_) in
theorem pi_enumS {X : Cx} {e : Expr} {ta : TA} {p pos tpos : Pos} {elts : List Expr} {kk : Nat} (hg : Gl X "enumerate") (hm : X.mg "enumerate" = none) (ha : PA X [e] ta) (hs : starEach [e] X.env = [(false, eval e X.env)] := by rfl) :
    PI X (.Tuple elts kk tpos) (.Call (.Name "enumerate" p) [e] [] pos) (iEnumS X.K ta) := by
  refine ⟨fun pins s σ H R I h => ?_⟩
  refine Call_ (ld_blt I hg hm PyProof.Rows.boot_enumerate (PyProof.Rows.callWith_type1 (thn (ha.run pos pins s σ H _ I h) fun us s1 ⟨vs, H1, I1, r1, q1⟩ => ?_) hs rfl))
  have fp : ∀ (b : Addr), b ∈ [s1.heap.objs.size + 1, s1.heap.objs.size] → s1.heap.objs.size ≤ b := fun b hb => by
    have e' : b = s1.heap.objs.size + 1 ∨ b = s1.heap.objs.size := by simpa using hb
    rcases e' with z | z
    · rw [z]; exact Nat.le_add_right _ _
    · rw [z]; exact Nat.le_refl _
  rcases q1 with ⟨a, xs, ex, hq, q⟩ | ⟨a, xs, ex, hq, q⟩
  · subst ex
    cases r1 with
    | cons r rr =>
      cases rr
      cases r
      obtain ⟨its, rv, p', hz⟩ := I1.list hq
      refine call_enumerate_list p'.isList fun h' he hit hsz hk => wpAny_pyIter_enum he ?_
      have I2 : Inv X pins σ H1 { s1 with heap := h' } := I1.kept (t' := s1.toks) hk
      exact ⟨s1.heap.objs.size + 1, [s1.heap.objs.size + 1, s1.heap.objs.size], _, _, H1, rfl, I2, turn_enum a (s1.heap.objs.size + 1) s1.heap.objs.size, ⟨⟨.none, he⟩, hit, Nat.succ_ne_self _⟩, fun b hb => I1.fpOk (fp b hb) (I1.hok.fresh (fp b hb)), q⟩
  · subst ex
    cases r1 with
    | cons r rr =>
      cases rr
      cases r
      obtain ⟨its, rv, p', hz⟩ := I1.tuple hq
      have ha' : a < s1.heap.objs.size := by obtain ⟨o, ho, _⟩ := p'; exact Heap.lt_size ho
      have hn1 : a ≠ s1.heap.objs.size := Nat.ne_of_lt ha'
      have hn2 : s1.heap.objs.size + 1 ≠ a := Nat.ne_of_gt (Nat.lt_succ_of_lt ha')
      refine call_enumerate_B (begins_tuple a its.toArray) p' fun h' he hit hsz hk => wpAny_pyIter_enum he ?_
      have I2 : Inv X pins σ H1 { s1 with heap := h' } := I1.kept (t' := s1.toks) hk
      exact ⟨s1.heap.objs.size + 1, [s1.heap.objs.size + 1, s1.heap.objs.size], _, _, H1, rfl, I2, turn_enumT a (s1.heap.objs.size + 1) s1.heap.objs.size hn1 hn2, ⟨⟨.none, he⟩, ⟨_, hit, rfl, rfl⟩, Nat.succ_ne_self _⟩, fun b hb => I1.fpOk (fp b hb) (I1.hok.fresh (fp b hb)), q⟩
section
variable {X : Cx} {EK : EKt} {r : Lo}
def iEnum3 : List D → W Src
  | [.tup xs] => W.pure ⟨numbered 0 xs, fun _ => True⟩
  | [.cl xs] => W.pure ⟨numbered 0 xs, fun _ => True⟩
  | [.ref a] => atO a fun o => match o with
    | .lst xs => W.pure ⟨numbered 0 xs, fun h => h a = some (.lst xs)⟩
    | _ => W.fail
  | _ => W.fail
theorem di_enum3 {elts : List Expr} {kk : Nat} {tpos p pos : Pos} {a : Expr} {ma : W D} (hg : Gl X "enumerate") (hm : X.mg "enumerate" = none) (ha : DA X EK r [a] [ma]) (hs : starEach [a] X.env = [(false, eval a X.env)] := by rfl) :
    DI X EK r (.Tuple elts kk tpos) (.Call (.Name "enumerate" p) [a] [] pos) ((eArgs [ma]).bind iEnum3) :=
  ⟨pi_weak (pi_enumS hg hm ha.pa hs) fun σ H R x => glueIA x fun d h' v H' e hr rp l hd run => by
    unfold iEnum3 at run
    split at run
    · rename_i xs
      obtain ⟨u, rfl, ru⟩ := reps1 rp
      cases ru with
      | @tup b vs _ s rr =>
        refine .inr ⟨b, vs, rfl, s.1, run _ H' Ext.refl hr ⟨fun i H h e hr ck hi => ?_, fun i H h x H'' e hr ck hi hy => ?_, fun i H h e hr ck hi => ?_⟩⟩
        · rw [numbered_len] at hi
          obtain ⟨v, hv', _⟩ := rr.get (List.getElem?_eq_getElem hi)
          exact ⟨vs, v, e.t _ _ s.1, hv'⟩
        · obtain ⟨T, x', rfl, hT, rfl, y⟩ := hy
          obtain ⟨d, hd, rd⟩ := (rr.mono e).getV (y vs (e.t _ _ s.1))
          refine ⟨Ext.laid hT, hr.under hT, _, ?_, .tup (SqP.np rfl) (.cons (.int _) (.cons (rd.mono (Ext.laid hT)) .nil))⟩
          show (numbered 0 xs)[i]? = _
          rw [numbered_get, hd]
          simp
        · rw [numbered_len] at hi
          exact ⟨vs, e.t _ _ s.1, by rw [rr.length]; exact hi.symm⟩
    · rename_i xs
      obtain ⟨u, rfl, ru⟩ := reps1 rp
      cases ru with
      | @cl b vs _ s rr =>
        refine .inl ⟨b, vs, rfl, s.list, run _ H' Ext.refl hr ⟨fun i H h e hr ck hi => ?_, fun i H h x H'' e hr ck hi hy => ?_, fun i H h e hr ck hi => ?_⟩⟩
        · rw [numbered_len] at hi
          obtain ⟨v, hv', _⟩ := rr.get (List.getElem?_eq_getElem hi)
          exact ⟨vs, v, (e.f _ _ s).list, hv'⟩
        · obtain ⟨T, x', rfl, hT, rfl, y⟩ := hy
          obtain ⟨d, hd, rd⟩ := (rr.mono e).getV (y vs (e.f _ _ s).list)
          refine ⟨Ext.laid hT, hr.under hT, _, ?_, .tup (SqP.np rfl) (.cons (.int _) (.cons (rd.mono (Ext.laid hT)) .nil))⟩
          show (numbered 0 xs)[i]? = _
          rw [numbered_get, hd]
          simp
        · rw [numbered_len] at hi
          exact ⟨vs, (e.f _ _ s).list, by rw [rr.length]; exact Nat.le_of_eq hi.symm⟩
    · obtain ⟨o, ho, run⟩ := run
      cases o with
      | lst xs =>
        obtain ⟨u, rfl, ru⟩ := reps1 rp
        rw [rep_ref ru]
        obtain ⟨vs, hv, rr⟩ := hr _ _ ho
        refine .inl ⟨_, vs, rfl, SqL.of hv, run _ H' Ext.refl hr ⟨fun i H h e hr ck hi => ?_, fun i H h x H'' e hr ck hi hy => ?_, fun i H h e hr ck hi => ?_⟩⟩
        · obtain ⟨vs, hv, rr⟩ := hr _ _ ck
          rw [numbered_len] at hi
          obtain ⟨v, hv', _⟩ := rr.get (List.getElem?_eq_getElem hi)
          exact ⟨vs, v, SqL.of hv, hv'⟩
        · obtain ⟨T, x', rfl, hT, rfl, y⟩ := hy
          obtain ⟨vs, hv, rr⟩ := hr _ _ ck
          obtain ⟨d, hd, rd⟩ := rr.getV (y vs (SqL.of hv))
          refine ⟨Ext.laid hT, hr.under hT, _, ?_, .tup (SqP.np rfl) (.cons (.int _) (.cons (rd.mono (Ext.laid hT)) .nil))⟩
          show (numbered 0 xs)[i]? = _
          rw [numbered_get, hd]
          simp
        · obtain ⟨vs, hv, rr⟩ := hr _ _ ck
          rw [numbered_len] at hi
          exact ⟨vs, SqL.of hv, by rw [rr.length]; exact Nat.le_of_eq hi.symm⟩
      | _ => exact (show False from run).elim
    · exact (show False from run).elim⟩
end
end DL
namespace DL
open PySem L2
variable {K : Gx} {EK : EKt}
end DL
namespace DL
open PySem L2
section
variable {X : Cx} {EK : EKt} {r : Lo} {elt tg iter tg1 iter1 : Expr} {scope : Scope} {own : List (Str × Nat)} {pos : Pos} {src : W Src} {p p1 : Pat} {is is1 : List Nat} {src1 : List D → W Src} {me : List D → List D → W D}
end
end DL
namespace DL
open PySem PySem.Spec L2 PyProof.Rows
section
variable {X : Cx} {EK : EKt} {K : Gx}
end
end DL
set_option maxHeartbeats 2000000
namespace OEE
open PySem PySem.HandSPX
open Builtin Builtin.ObjectAttr
section
variable {prog : Program} {w : World} {A : Around} {R : Result → Shared → Prop} {hp : Heap} {g : Array GenState} {d : Drawn} {t : Nat} {os : OsState}
end
end OEE
namespace DL
open PySem PySem.Spec L2 PyProof.Rows
section
variable {X : Cx} {pins : List (Addr × Obj)} {σ : L2.St} {H : Hp} {s : Shared} {a C dx : Addr} {f : Str} {y : V} {u : Value} {Q : Unit → Shared → Prop} {E : Value → Shared → Prop} {A : Around}
end
end DL
set_option maxHeartbeats 2000000
namespace PySem

section
variable {M : Model} {A : Around} {Γ : PySem.Ctx} {env : Env}
end
end PySem
namespace DL
open PySem PySem.Spec L2 PyProof.Rows
section
variable {X : Cx} {Wx : WX} {r0 r : Lo} {L C C' L' : Type} {Jn : C → Lo} {Jl : L → Lo} {J1 : C' → Lo} {rest l body : List Stmt} {pos : Pos}
variable {Jh : L → Lo} {Jm : L' → Lo}
end
section
variable {P : Program} {w : World} {K : PySem.W.Frag} {mg : Str → Option Value} {base : Heap}
end
end DL
set_option maxHeartbeats 2000000
namespace DL
open PySem PySem.Spec L2 PyProof.Rows
section
variable {P : Program} {w : World} {K : PySem.W.Frag} {mg : Str → Option Value} {base : Heap}
end
section
variable {X : Cx} {Wx : WX} {L C : Type} {Jn : C → Lo} {Jl : L → Lo} {r r0 : Lo} {rest : List Stmt} {pos : Pos}
end
end DL
set_option maxHeartbeats 2000000
namespace L2
open PySem PySem.Spec PyProof.Rows
section
variable {X : Cx} {body : List Stmt} {h₀ : ExceptHandler} {hds : List ExceptHandler} {l : List (Value × Option Nat × (Addr → Value → Option Addr → TS))} {pos : Pos} {tb : WX → TS} {Wout : WX}
end
end L2
set_option maxHeartbeats 2000000
namespace DL
open PySem PySem.Spec L2 PyProof.Rows
section
variable {X : Cx} {L C C' : Type} {Jn : C → Lo} {Jl : L → Lo} {J1 : C' → Lo} {r r0 : Lo} {sts rest body : List Stmt} {cls : Value} {d : Option Addr} {ex : Ex} {f : Str} {v : D} {m : W (Fl L C)} {pos : Pos}
end
end DL
set_option maxHeartbeats 2000000
namespace DL
open PySem PySem.Spec L2 PyProof.Rows
section
variable {X : Cx} {Wx : WX} {EK : EKt} {r r0 : Lo} {kws : List Keyword} {ks : List (W D)} {pos p : Pos} {k : Nat} {g : Addr} {fd : FuncData} {ps kn : List Str} {x : Str} {f o : List D → W D} {n np : Nat} {gi : List Nat}
end
section
variable {X : Cx} {Wx : WX} {r0 r : Lo} {L C C' : Type} {Jn : C → Lo} {Jl : L → Lo} {J1 : C' → Lo} {rest : List Stmt} {s1 s2 s3 s4 s5 s6 : Stmt} {a : W (Fl L C')} {k : C' → W (Fl L C)}
end
end DL

set_option maxHeartbeats 2000000
namespace DL
open PySem PySem.Spec PyProof.Rows L2
section
variable {X : Cx} {EK : EKt} {K : Gx}
def rSortDA : List V → Hp → VK → Prop := fun xs H Q => ∃ (a : Addr) (kvs : List (Key × V)) (ks : List Str), xs = [.ref a] ∧ Rd H a (.dK kvs) ∧ kvs.map (·.1) = ks.map Sum.inr ∧ ks.length ≤ sizeLine ∧
  ∀ ys p, ys.Perm ks → sortedS ys = true → H p = none → Q (.ref p) (L2.upd H p (.lst (ys.map V.str)))
theorem cr_sortDA (hcalm : X.calm = true) : CallR X (.builtin "sorted") rSortDA := by
  intro pins s σ H xs us Q I r q
  obtain ⟨a, kvs, ks, ex, hd, hks, h64, q⟩ := q
  subst ex
  obtain ⟨u, eu, rx⟩ := vals1 r
  subst eu
  cases rx
  obtain ⟨z, lo, vs, rel, dd⟩ := dk_rd I.hok hd
  obtain ⟨ep, hat⟩ := dd.dictAt
  have hkeys : vs.map (·.1) = ks.map Sum.inr := rel.keys.symm.trans hks
  have hl : vs.length = ks.length := by
    have e := congrArg List.length hkeys
    rw [List.length_map, List.length_map] at e
    exact e
  have h16 : vs.length ≤ sizeLine := by rw [hl]; exact h64
  refine Calls.call_function_entry PyProof.Rows.kind_sorted PyProof.Rows.plain_sorted PyProof.Rows.entry_sorted (PyProof.Rows.args_sorted1 _) ?_
  unfold Builtin.«sorted»
  refine wpAny_bind (m := checkCount "sorted" 1 1 _) (wpAny_pure ?_)
  refine wpAny_bind (PySem.W.kdu_collect (A := X.A.in1) (PySem.W.kdl_dict (knd := mixKind X.prog X.w) (kvs := vs) (ep := ep) lo) (I.ok.hd hcalm) hat h16 fun h' tk acc hk hacc => ?_)
  have hal : acc.toList.length = ks.length := by rw [Array.length_toList, hacc.1, hl]
  have hw : StrsAre acc.toList ks := strs_at hal fun j v e => by
    obtain ⟨k, x, e1, e2⟩ := hacc.2 j v (by rw [← Array.getElem?_toList]; exact e)
    have e3 : (vs.map (·.1))[j]? = some k := by rw [List.getElem?_map, e1]; all_goals rfl
    rw [hkeys, List.getElem?_map] at e3
    cases e4 : ks[j]? with
    | none => rw [e4] at e3; cases e3
    | some y =>
      rw [e4] at e3
      have e5 : Sum.inr y = k := Option.some.inj e3
      subst e5
      obtain ⟨t, ev⟩ := Value.isStrOf_shape (x := y) (v := v) e2
      exact ⟨y, t, rfl, ev⟩
  have len : acc.toList.length ≤ sizeLine := by rw [hal]; exact h64
  have I1 : Inv X pins σ H { s with heap := h', toks := tk } := I.kept hk
  refine wpAny_bind (wpAny_newList ?_ len)
  have hoL : (h'.push (seqObj "list" acc.toList.toArray 0)).get? h'.objs.size = some (seqObj "list" acc.toList.toArray 0) := Heap.get?_push_size _ rfl
  show wpAny _ _ _ _ _ { s with heap := h'.push (seqObj "list" acc.toList.toArray 0), toks := tk }
  refine wpAny_bind (wpAny_holding (wpAny_call_entry PyProof.Rows.slot_list_sort ⟨_, hoL, rfl⟩ PyProof.Rows.entry_list_sort
    (list_sort_treeKAny strKind_oneLt (s := { s with heap := h'.push (seqObj "list" acc.toList.toArray 0), toks := tk }) hoL hw.keysOf (fun v₁ v₂ rest e => keyKind_strs (by rw [← e]; exact hw)) len fun st' hp hs => ⟨_, rfl, ?_⟩)
    (PyProof.Rows.args_list_sort _)))
  obtain ⟨ys, g1, g2, g3⟩ := sorted_out_str hw hp hs
  obtain ⟨e', he'⟩ := PyProof.Rows.sortedHeap_at (vs := acc.toList) (out := (arrOf st').map (·.2)) hoL
  have hlen : (ys.map V.str).length ≤ sizeLine := by
    rw [List.length_map, g2.length_eq]
    exact h64
  refine wpAny_pure ⟨_, rfl, .ref h'.objs.size, upd H h'.objs.size (.lst (ys.map V.str)), I1.laid (t' := tk) (fun b u e => ?_) (Nat.le_refl _)
    (show ObjOk X.prog X.w _ _ _ (.lst (ys.map V.str)) from ⟨hlen, ((arrOf st').map (·.2)).toList, e', vals_of_strs g1, by rw [Array.toArray_toList]; exact he'⟩), rfl, q ys _ g2 g3 (I1.hok.fresh (Nat.le_refl _))⟩
  have hb : b < h'.objs.size := Heap.lt_size e
  rw [PyProof.Rows.sortedHeap_old (Nat.ne_of_lt hb) (by rw [size_push']; exact Nat.lt_succ_of_lt hb)]
  exact Heap.get?_push_of_some _ e
def bSortDA : List D → W D
  | [d] => ⟨fun h Q _ => ∃ (kvs : List (Key × D)) (zs : List Str), DctI h d kvs ∧ strsK (kvs.map (·.1)) = some zs ∧ zs.length ≤ sizeLine ∧ ∀ (ys : List Str) (p : Addr), ys.Perm zs → sortedS ys = true → h p = none → Q (.ref p) (h.upd p (.lst (ys.map D.str))), fun g ⟨a, b, c, d, e, k⟩ => ⟨a, b, c, d, e, fun ys p h1 h2 h3 => g _ _ (k ys p h1 h2 h3)⟩⟩
  | _ => W.fail
theorem s_sortDA : SimL K EK rSortDA bSortDA := fun H h xs ds Q hr rp run => by
  match ds, rp, run with
  | [d], rp, ⟨kvs, zs, i, ez, hz, run⟩ =>
    obtain ⟨v, rfl, r1⟩ := reps1 rp
    obtain ⟨p, l, rfl, rd, pr⟩ := i.rep hr r1
    have e : l.map (·.1) = zs.map Sum.inr := (ent_keys1 pr).trans (strsK_eq ez)
    exact ⟨p, l, zs, rfl, rd, e, hz, fun ys q h1 h2 hq => run ys q h1 h2 (hr.none hq) _ _ (Ext.laid hq) (hr.laid hq ⟨_, upd_same, strs_reps ys⟩) (.ref q)⟩
def bSort4 (ds : List D) : W D := W.alt (bSort3 ds) (bSortDA ds)
theorem cr_sort4 (hc : X.calm = true) : CallR X (.builtin "sorted") (fun xs H Q => (rSort2 X.gx xs H Q ∨ rSortT X.K xs H Q) ∨ rSortDA xs H Q) := (cr_sort3 hc).or (cr_sortDA hc)
theorem s_sort4 : SimL K EK (fun xs H Q => (rSort2 K xs H Q ∨ rSortT K.K xs H Q) ∨ rSortDA xs H Q) bSort4 := simL_alt s_sort3 s_sortDA
def bSortF4 : List D → W D
  | [.dk ks ds] => ⟨fun h Q _ => ∃ zs, strsK ((ks.zip ds).map (·.1)) = some zs ∧ zs.length ≤ sizeLine ∧ Q (.cl ((sortS zs).map D.str)) h, fun g ⟨a, b, c, k⟩ => ⟨a, b, c, g _ _ k⟩⟩
  | ds => bSortF3 ds
theorem sortF4_ok {h : DH} {ds : List D} {Q : D → DH → Prop} (q : (bSortF4 ds).run h Q EK) : ((bSort4 ds).bind frzQ).run h Q EK := by
  unfold bSortF4 at q
  split at q
  · obtain ⟨zs, e, hl, q⟩ := q
    exact .inr ⟨_, zs, rfl, e, hl, fun ys p h1 h2 hp => new_frz (by rw [sortS_eq h1 h2]; exact q) p hp⟩
  · exact .inl (sortF3_ok q)
end
end DL
set_option maxHeartbeats 2000000
namespace OEE
open PySem PySem.HandSPX PySem.Calls
section
variable {M : Model} {A : Around} {E : Value → Shared → Prop} {h : Heap} {g : Array GenState} {d : Drawn} {t : Nat} {os : OsState}
variable {nm q : Str} {C N : Addr} {bs bm bmB : List Value} {hdct : Bool} {sn : List Str} {sub : List Value} {ab : Bool} {col : Option Bool} {dd : Option Addr} {k0 k1 k2 k3 k5 : Option Value} {B newId initId : String}
end
section
variable {prog : Program} {w : World} {A : Around} {E : Value → Shared → Prop} {R : Result → Shared → Prop} {h : Heap} {g : Array GenState} {d : Drawn} {t : Nat} {os : OsState}
variable {nm q : Str} {C N : Addr} {bs bm bmB : List Value} {hdct : Bool} {sn : List Str} {sub : List Value} {ab : Bool} {col : Option Bool} {dd : Option Addr} {k0 k1 k2 k3 k5 : Option Value} {B newId initId : String}
end
end OEE
set_option maxHeartbeats 2000000
namespace DL
open PySem PySem.Spec L2 PyProof.Rows
section
variable {P : Program} {w : World} {fs ex : List Addr} {H : Hp} {h h' : Heap} {a : Addr} {o : HO}
end
section
variable {X : Cx} {CX : CXT} {x : Str} {C fI : Addr} {k : Nat} {fd : FuncData} {ps : List Str} {sp : Sp} {ds : List Value} {dvs : List V} {e : Expr} {es : List Expr} {ta : TA} {p pos : Pos}
end
end DL
set_option maxHeartbeats 4000000
namespace PySem.W
open PySem PySem.Spec PySem.Calls PyProof.Rows
section
variable {prog : Program} {w : World} {A : Around} {E : Value → Shared → Prop} {s : Shared} {K : Frag} {x D : Addr} {ox : Obj} {od : Option Obj}
end
end PySem.W
namespace DL
open PySem PySem.Spec L2 PyProof.Rows
section
variable {X : Cx} {EK : EKt} {r : Lo} {e : Expr} {m : W D} {pos p : Pos} {x f : Str} {ns : List Str} {g : Addr} {fd : FuncData} {ps : List Str} {k : Nat}
end
end DL
namespace DL
open PySem L2
end DL
namespace DL
open PySem PySem.Spec L2 PySem.SeqAt
section
variable {X : Cx} {EK : EKt} {K : Gx}
def SameV (K : PySem.W.Frag) (H : Hp) (x y : V) : Prop := ∃ p, Dp K H x p ∧ Dp K H y p ∧ p.canLay0 = true ∧ p.depth ≤ 60 ∧ PyData.eqv p p = true
inductive SameA (K : PySem.W.Frag) (H : Hp) : List (Key × V) → List (Key × V) → Prop
  | nil : SameA K H [] []
  | cons {k : Key} {x y : V} {l1 l2 : List (Key × V)} : SameV K H x y → SameA K H l1 l2 → SameA K H ((k, x) :: l1) ((k, y) :: l2)
theorem SameA.len {K : PySem.W.Frag} {H : Hp} {l1 l2 : List (Key × V)} (h : SameA K H l1 l2) : l1.length = l2.length := by
  induction h with
  | nil => rfl
  | cons _ _ ih => rw [List.length_cons, List.length_cons, ih]
theorem SameA.at_ {K : PySem.W.Frag} {H : Hp} {l1 l2 : List (Key × V)} (h : SameA K H l1 l2) : ∀ p ∈ l1, ∃ q ∈ l2, q.1 = p.1 ∧ SameV K H p.2 q.2 := by
  induction h with
  | nil => intro p hp; cases hp
  | @cons k x y l1 l2 a b ih =>
    intro p hp
    rcases List.mem_cons.mp hp with e | hp
    · subst e; exact ⟨(k, y), List.mem_cons_self, rfl, a⟩
    · obtain ⟨q, hq, r⟩ := ih p hp
      exact ⟨q, List.mem_cons_of_mem _ hq, r⟩
end
end DL
namespace DL
open PySem PySem.Spec L2
section
variable {K : PySem.W.Frag} {mg : Str → Option Value}
end
end DL
namespace DL
open PySem PySem.Spec L2 PyProof.Rows
abbrev Tk := List Key
abbrev MIs (P : Program) (w : World) (h : Heap) (k : Tk) (b : Addr) : Prop := IsTupleKey (mixKind P w) h k b
abbrev mH (P : Program) (w : World) (k : Tk) : Int := tupleKeyHash (mixKind P w) k
section
variable {P : Program} {w : World} {A : Around} {E : Value → Shared → Prop} {s : Shared}
def mRow (P : Program) (w : World) (p : Addr × Tk) : Int × Value := (mH P w p.2, Value.ref p.1)
def mHs (P : Program) (w : World) (L : List (Addr × Tk)) : List Int := L.map fun p => mH P w p.2
structure MTab (P : Program) (w : World) (h : Heap) (a : Addr) (L : List (Addr × Tk)) (o : Obj) (es : Array (Int × Value)) (ep : Nat) (t : SetTable) : Prop where
  ob : h.get? a = some o
  ex : o.ExactSet
  da : o.data = .set es ep t
  rows : es.toList = L.map (mRow P w)
  tab : TabOk t (mHs P w L)
  nd : (L.map (·.2)).Nodup
  tup : ∀ p ∈ L, MIs P w h p.2 p.1
  led : w.params.followText "set-order" = true ∨ t.led = true
  room : L.length * 5 < t.mask * 3
  few : L.length < 64
variable {a : Addr} {L : List (Addr × Tk)} {o : Obj} {es : Array (Int × Value)} {ep : Nat} {t : SetTable}
theorem rows_size (r : es.toList = L.map (mRow P w)) : es.size = L.length := by
  rw [← Array.length_toList, r, List.length_map]
theorem MTab.tsz (R : MTab P w s.heap a L o es ep t) : t.place.size = L.length := by
  have h := R.tab.sz
  unfold mHs at h
  rwa [List.length_map] at h
theorem MTab.fits (R : MTab P w s.heap a L o es ep t) : t.fits es.size = true := by
  have h1 := R.tsz
  have h2 := rows_size R.rows
  have h3 := R.room
  unfold SetTable.fits SetTable.fill
  rw [R.tab.dm, Bool.and_eq_true, beq_iff_eq, decide_eq_true_eq]
  show t.place.size = es.size ∧ t.place.size + 0 ≤ t.mask
  omega
end
end DL
namespace DL
open PySem PySem.Spec L2 PyProof.Rows
section
variable {P : Program} {w : World} {A : Around} {E : Value → Shared → Prop} {s : Shared} {a : Addr} {L : List (Addr × Tk)} {o : Obj} {es : Array (Int × Value)} {ep : Nat} {t : SetTable}
end
end DL
namespace DL
open PySem PySem.Spec L2 PyProof.Rows
section
variable {P : Program} {w : World} {A : Around} {E : Value → Shared → Prop} {s : Shared}
def MSet (P : Program) (w : World) (h : Heap) (a : Addr) (L : List (Addr × Tk)) : Prop := ∃ o es ep t, MTab P w h a L o es ep t
theorem MSet.keep {h h' : Heap} {a : Addr} {L : List (Addr × Tk)} (R : MSet P w h a L) (ha : ∀ o, h.get? a = some o → h'.get? a = some o) (ht : ∀ p ∈ L, MIs P w h' p.2 p.1) : MSet P w h' a L := by
  obtain ⟨o, es, ep, t, R⟩ := R
  exact ⟨o, es, ep, t, ha o R.ob, R.ex, R.da, R.rows, R.tab, R.nd, ht, R.led, R.room, R.few⟩
end
end DL
namespace DL
open PySem PySem.Spec PyProof.Rows L2
section
variable {P : Program} {w : World} {A : Around} {E : Value → Shared → Prop} {s : Shared}
end
end DL
namespace DL
open PySem PySem.Spec PyProof.Rows L2
section
variable {X : Cx} {EK : EKt} {K : Gx}
variable {r : Lo} {e : Expr} {m : W D} {pos p pos2 p2 : Pos}
end
end DL
namespace DL
open PySem PySem.Spec L2
section
variable {X : Cx} {EK : EKt} {K : Gx}
end
end DL
namespace DL
open PySem PySem.Spec L2
section
variable {X : Cx} {EK : EKt} {L C : Type} {Jn : C → Lo} {Jl : L → Lo} {r : Lo} {rest : List Stmt} {e : Expr} {m : W D} {es : List Expr} {ps : List Pat} {is : List Nat} {kk : Nat} {pos tp : Pos}
end
end DL
namespace DL
open PySem PySem.Spec PyProof.Rows L2 HT
section
variable {prog : Program} {w : World} {A : Around} {E : Value → Shared → Prop} {s : Shared}
end
section
variable {X : Cx} {EK : EKt} {r : Lo} {a : Expr} {ma : W D}
end
end DL
namespace DL
open PySem PySem.Spec L2
section
variable {X : Cx} {EK : EKt} {K : Gx}
end
end DL
namespace DL
open PySem PySem.Spec L2
section
variable {X : Cx} {EK : EKt} {K : Gx}
end
end DL
namespace DL
open PySem PySem.Spec L2 PyProof.Rows
section
variable {X : Cx} {EK : EKt} {K : Gx}
theorem meets_setd {prog : Program} {w : World} (d a : Addr) (hd : (d == sysModules) = false) (dflt : Value) :
    MeetsIn prog w (Builtin.«dict.setdefault» ⟨[.ref d, .ref a, dflt], []⟩) (fun A R s => A.units + 1 + 8 < cLine ∧ ∃ k xs, (nestedKind prog w).is s.heap k a ∧ GrownH prog w s.heap d xs ∧ xs.length ≤ sizeLine ∧
      (∀ p, atKey xs k = some p → ∀ tk, R (.ok (.ret p.2)) { s with toks := tk }) ∧
      (atKey xs k = none → ∀ h' tk, GrownH prog w h' d (storedH xs k a dflt) → Heap.SameBut d s.heap h' → R (.ok (.ret dflt)) { s with heap := h', toks := tk })) :=
  .of_wp fun A R s ⟨hu, k, xs, hkey, hm, hz, h1, h2⟩ => by
    unfold Builtin.«dict.setdefault» Builtin.Dict.keyAndDefault
    refine wpAny_bind (wpAny_bind (wpAny_notOrdered_dict hm.dict.typeIs ?_))
    show wpAny _ _ (pure (d, Value.ref a, some dflt)) _ _ s
    refine wpAny_pure ?_
    show wpAny _ _ (if (d == sysModules) = true then _ else (dictSetDefault d (.ref a) dflt >>= _)) _ _ s
    rw [if_neg (by rw [hd]; exact Bool.false_ne_true)]
    exact wpAny_bind (dictSetDefault_grown (show A.units + 1 + 8 < cLine from hu) hkey hm hz (fun p hp tk => wpAny_pure ⟨p.2, rfl, h1 p hp tk⟩) fun hn h' tk hm' hs' => wpAny_pure ⟨dflt, rfl, h2 hn h' tk hm' hs'⟩)
def rSetdT (K : Gx) : V → List V → Hp → VK → Prop := fun x xs H Q => ∃ a b l kvs k v, x = .ref a ∧ xs = [.ref b, v] ∧ H a = some (DictO K.P K.w a l) ∧ Paired (EntR K H) l kvs ∧ Rep K H (.ref b) k ∧ keyOk k = true ∧ (nk k).depth ≤ 8 ∧ l.length < sizeLine ∧
  (∀ d, findT kvs k = some d → ∀ u, Rep K H u d → Q u H) ∧ (findT kvs k = none → Q v (L2.upd H a (DictO K.P K.w a (putL l (nk k) b v))))
theorem mt_setdT (hu : X.A.units + 64 < cLine) : MtR X "dict.setdefault" (rSetdT X.gx) := by
  intro pins s σ H x xs v us Q I rx rxs hyp
  obtain ⟨a, b, l, kvs, k, d, rfl, rfl, e, pr, rk, ko, kd, ln, q1, q2⟩ := hyp
  cases rx
  obtain ⟨u1, u2, rfl, r1, r2⟩ := vals2 rxs
  cases r1
  obtain ⟨n1, xs, px, hd, hz⟩ := dictG_of I e pr
  have nd := (I.hok a _ e).1.2.2.1
  have at0 := at_find (k := k) pr px
  refine call_meetsIn PySem.F.slot_dict_setdefault hd.dict.typeIs PySem.F.entry_dict_setdefault (PySem.F.args_dict_setdefault_3 _ _ _) (meets_setd a b n1 u2) ⟨show X.A.units + 1 + 8 < cLine by omega, nk k, xs, ⟨nk_is I rk rfl ko, kd⟩, hd, hz, fun p hp tk => ?_, fun hn h' tk hd' sb => ?_⟩
  · cases hf : findT kvs k with
    | none => rw [hf] at at0; rw [at0] at hp; cases hp
    | some d0 =>
      rw [hf] at at0
      obtain ⟨a2, v2, u, e2, rv, rp⟩ := at0
      rw [hp] at e2
      cases e2
      exact ⟨v2, H, I.tok _, rv, q1 d0 hf v2 rp⟩
  · have hf : findT kvs k = none := by
      cases hf : findT kvs k with
      | none => rfl
      | some d0 =>
        rw [hf] at at0
        obtain ⟨a2, v2, u, e2, rv, rp⟩ := at0
        rw [hn] at e2; cases e2
    obtain ⟨o, es, h1, h2, h3, h4, h5, h6⟩ := hd'
    exact ⟨d, _, I.write (e := a) (t' := tk) (by rw [e]; trivial) (.inl rfl) (fun b u hb hu => (sb.2 b hb).trans hu) ⟨o, h1⟩ (dictO_ok ⟨n1, Nat.le_trans putL_len ln, putL_nodup nd, _, putL_V px _ _ r2, o, es, h1, h2, h3, h4⟩), r2, q2 hf⟩
def rSetdK : V → List V → Hp → VK → Prop := fun x xs H Q => ∃ (a : Addr) (kvs : List (Key × V)) (k : Key) (v : V), x = .ref a ∧ xs = [kV k, v] ∧ H a = some (.dK kvs) ∧ kvs.length < sizeLine ∧
  (∀ u, valV kvs k = some u → Q u H) ∧ (valV kvs k = none → Q v (L2.upd H a (.dK (putK kvs k v))))
theorem mt_setdK : MtR X "dict.setdefault" rSetdK := by
  intro pins s σ H x xs v us Q I rx rxs hyp
  obtain ⟨a, kvs, k, d, rfl, rfl, e, ln, q1, q2⟩ := hyp
  cases rx
  obtain ⟨u1, u2, rfl, r1, r2⟩ := vals2 rxs
  exact d_setd I e r1 r2 ln (fun v0 hv w' s' I' r' => ⟨v0, H, I', r', q1 v0 hv⟩) (fun hn w' s' I' r' => ⟨d, _, I', r', q2 hn⟩)
theorem mt_setd (hu : X.A.units + 64 < cLine) : MtR X "dict.setdefault" (fun x xs H Q => rSetdK x xs H Q ∨ rSetdT X.gx x xs H Q) := mt_or mt_setdK (mt_setdT hu)
def mSetd : D → List D → W D
  | .ref a, [k, v] => ⟨fun h Q _ => (∃ kvs key, h a = some (.dK kvs) ∧ keyD k = some key ∧ kvs.length < sizeLine ∧ (∀ d, findK kvs key = some d → Q d h) ∧ (findK kvs key = none → Q v (h.upd a (.dK (putD kvs key v))))) ∨
      (∃ kvs, h a = some (.dT kvs) ∧ isTup k = true ∧ keyOk k = true ∧ (nk k).depth ≤ 8 ∧ kvs.length < sizeLine ∧ (∀ d, findT kvs k = some d → Q d h) ∧ (findT kvs k = none → Q v (h.upd a (.dT (putT kvs k v))))),
    fun g x => x.elim (fun ⟨a, b, c, d, e, f, k⟩ => .inl ⟨a, b, c, d, e, fun x y => g _ _ (f x y), fun y => g _ _ (k y)⟩) fun ⟨a, b, c, d, e, f, i, k⟩ => .inr ⟨a, b, c, d, e, f, fun x y => g _ _ (i x y), fun y => g _ _ (k y)⟩⟩
  | _, _ => W.fail
theorem s_setd : SimM K EK (fun x xs H Q => rSetdK x xs H Q ∨ rSetdT K x xs H Q) mSetd := fun H h x d xs ds Q hr rx rp run => by
  unfold mSetd at run
  split at run
  · rename_i a k v
    obtain ⟨y, z, rfl, ry, rz⟩ := reps2 rp
    rcases run with ⟨kvs, key, ha, hk, ln, q1, q2⟩ | ⟨kvs, ha, hi, ko, kd, ln, q1, q2⟩
    · left
      obtain ⟨l, hv, pr⟩ := hr _ _ ha
      refine ⟨_, l, key, z, rep_ref rx, ?_, hv, by rw [paired_len pr]; exact ln, fun u hu => ?_, fun hn => ?_⟩
      · rw [keyD_V ry hk]
      · cases hf : findK kvs key with
        | none => rw [find_none pr hf] at hu; cases hu
        | some d0 =>
          obtain ⟨v0, h1, h2⟩ := find_some pr hf
          rw [h1] at hu
          cases hu
          exact q1 d0 hf _ H Ext.refl hr h2
      · have hf : findK kvs key = none := by
          cases hf : findK kvs key with
          | none => rfl
          | some d0 =>
            obtain ⟨v0, h1, h2⟩ := find_some pr hf
            rw [h1] at hn; cases hn
        obtain ⟨ex, hr'⟩ := wrote_dK hr hv (put_rel (k := key) pr rz)
        exact q2 hf _ _ ex hr' (rz.mono ex)
    · right
      obtain ⟨l, hv, pr⟩ := hr _ _ ha
      match k, hi, ry with
      | .tup ks, hi, @Rep.tup _ _ b vs _ sq rr =>
        refine ⟨_, b, l, kvs, .tup ks, z, rep_ref rx, rfl, hv, pr, .tup sq rr, ko, kd, by rw [Paired.length pr]; exact ln, fun d0 hf u ru => q1 d0 hf _ H Ext.refl hr ru, fun hf => ?_⟩
        have ex : Ext K H (L2.upd H a (DictO K.P K.w a (putL l (nk (.tup ks)) b z))) := Ext.wrote hv (fun _ w => by cases w) (fun _ _ w => by cases w)
        refine q2 hf _ _ ex (hr.wrote hv (fun _ w => by cases w) (fun _ _ w => by cases w) ⟨_, upd_same, ?_⟩) (rz.mono ex)
        exact L2.Paired.mapP (putL_D pr kd ko (.tup sq rr) rz) fun _ _ ⟨a, b, c, d, f⟩ => ⟨a, b, c, d.mono ex, f.mono ex⟩
  · exact run.elim
end
end DL
namespace DL
open PySem PySem.Spec L2 PyProof.Rows
section
variable {X : Cx} {EK : EKt} {K : Gx}
def isDT (d : D) (h : DH) : Prop := ∃ a kvs, d = .ref a ∧ h a = some (.dT kvs)
@[reducible] def isDK5 (d : D) (h : DH) : Prop := isDK3 d h ∨ isDT d h
theorem ty_dict5 : TyP X "dict" (fun x H => ((∃ p, x = .ref p ∧ IsD H p) ∨ ∃ p es n, x = .ref p ∧ KDict X.K X.w p es n) ∨ ∃ p l, x = .ref p ∧ H p = some (DictO X.prog X.w p l)) := fun pins s σ H x v I r hyp => by
  rcases hyp with h | ⟨p, l, rfl, e⟩
  · exact ty_dict3 pins s σ H x v I r h
  · cases r
    obtain ⟨⟨n1, n2, nd, xs, px, o, es, h1, h2, h3, h4⟩, _⟩ := I.hok p _ e
    exact ⟨⟨o, h1, h2.1⟩, fun a ea => by cases ea; exact ⟨o, h1, h2.2.1⟩⟩
theorem st_dict5 : SimTy K isDK5 (fun x H => ((∃ p, x = .ref p ∧ IsD H p) ∨ ∃ p es n, x = .ref p ∧ KDict K.K K.w p es n) ∨ ∃ p l, x = .ref p ∧ H p = some (DictO K.P K.w p l)) := fun H h x d hr rp hyp => by
  rcases hyp with i | ⟨a, kvs, rfl, ha⟩
  · exact .inl (st_dict3 H h x d hr rp i)
  · obtain ⟨l, hl, _⟩ := hr a _ ha
    exact .inr ⟨a, l, rep_ref rp, hl⟩
end
end DL
namespace DL
open PySem PySem.Spec L2 PyProof.Rows
section
variable {prog : Program} {w : World} {A : Around} {E : Value → Shared → Prop} {s : Shared} {d : Addr} {o : Obj} {es : Array DictEntry} {ep : Nat} {xs : List (NestedKey × Addr × Value)}
end
section
variable {X : Cx} {EK : EKt} {K : Gx}
end
end DL
namespace DL
open PySem PySem.Spec L2 PyProof.Rows
section
variable {prog : Program} {w : World} {K : Type} [DecidableEq K] {knd : PySem.KeyKind prog w K} {A : Around} {E : Value → Shared → Prop} {s : Shared}
end
section
variable {prog : Program} {w : World} {K : Type} [DecidableEq K]
end
section
variable {X : Cx} {EK : EKt} {K : Gx}
end
section
variable {P : Program} {w : World} {K : PySem.W.Frag} {d : Addr} {n : Nat}
end
section
variable {X : Cx} {EK : EKt} {r : Lo} {e : Expr} {m : W D} {td : TE} {apos cpos : Pos}
end
end DL
namespace DL
open PySem PySem.Spec L2 PyProof.Rows
section
variable {P : Program} {w : World} {K : PySem.W.Frag} {tg : Expr} {d : Addr} {n : Nat}
end
section
variable {X : Cx} {tg : Expr} {EK : EKt} {r : Lo} {e : Expr} {m : W D}
end
section
variable {X : Cx} {EK : EKt} {K : Gx}
end
end DL
namespace DL
open PySem PySem.Spec L2 PyProof.Rows
section
variable {P : Program} {w : World} {A : Around} {E : Value → Shared → Prop} {s : Shared}
end
section
variable {X : Cx} {EK : EKt} {K : Gx}
end
end DL
namespace DL
open PySem PySem.Spec PyProof.Rows L2
section
variable {X : Cx} {EK : EKt} {K : Gx}
end
end DL
namespace DL
open PySem PySem.Spec PyProof.Rows L2
section
variable {X : Cx} {EK : EKt} {K : Gx}
end
end DL
namespace DL
open PySem PySem.Spec PyProof.Rows L2
section
variable {X : Cx}
theorem put_T {pins : List (Addr × Obj)} {σ : L2.St} {H : Hp} {s : Shared} {E : Value → Shared → Prop} {D b : Addr} {l : List (NestedKey × Addr × V)} {kvs : List (_root_.DL.D × _root_.DL.D)} {k : _root_.DL.D} {v : V} {r : Value} {Q : Unit → Shared → Prop}
    (hu : X.A.units + 8 < cLine) (I : Inv X pins σ H s) (e : H D = some (DictO X.prog X.w D l)) (pr : Paired (EntR X.gx H) l kvs) (rk : Rep X.gx H (.ref b) k) (ko : keyOk k = true) (kd : (nk k).depth ≤ 8) (hl : l.length < sizeLine) (rv : RelV v r)
    (q : ∀ s', Inv X pins σ (L2.upd H D (DictO X.prog X.w D (putL l (nk k) b v))) s' → Q () s') : wpAny (model X.prog X.w) X.A (dictSet D (.ref b) r) Q E s := by
  obtain ⟨n1, xs, px, hd, hz⟩ := dictG_of I e pr
  have nd := (I.hok D _ e).1.2.2.1
  refine dictSet_grown hu (⟨nk_is I rk rfl ko, kd⟩ : NestedIs s.heap (nk k) (.ref b) ∧ _) hd hz fun h' tk hd' sb => ?_
  obtain ⟨o, es, h1, h2, h3, h4, h5, h6⟩ := hd'
  exact q _ (I.write (e := D) (t' := tk) (by rw [e]; trivial) (.inl rfl) (fun b u hb hu => (sb.2 b hb).trans hu) ⟨o, h1⟩ (dictO_ok ⟨n1, Nat.le_trans putL_len hl, putL_nodup nd, _, putL_V px _ _ rv, o, es, h1, h2, h3, h4⟩))
def PutTR (K : Gx) (D : Addr) (y z : V) (H : Hp) (Nx : Hp → Prop) : Prop := ∃ b l kvs k, y = .ref b ∧ H D = some (DictO K.P K.w D l) ∧ Paired (EntR K H) l kvs ∧ Rep K H (.ref b) k ∧ keyOk k = true ∧ (nk k).depth ≤ 8 ∧ l.length < sizeLine ∧ Nx (L2.upd H D (DictO K.P K.w D (putL l (nk k) b z)))
theorem laid_T {pins : List (Addr × Obj)} {σ : L2.St} {H : Hp} {s : Shared} (I : Inv X pins σ H s) :
    Inv X pins σ (L2.upd H s.heap.objs.size (DictO X.prog X.w s.heap.objs.size [])) { s with heap := s.heap.push { cls := .type "dict", data := .dict #[] } } :=
  I.laid (t' := s.toks) (fun _ _ q => Heap.get?_push_of_some _ q) (Nat.le_refl _)
    (dictO_ok ⟨beq_eq_false_iff_ne.mpr (Nat.ne_of_gt I.big), Nat.zero_le _, List.nodup_nil, [], .nil, _, #[], Heap.get?_push_size _ rfl, ⟨rfl, rfl, rfl⟩, rfl, rfl⟩)
section
variable {tg iter kx vx : Expr} {ifs : List Expr} {scope : Scope} {pos : Pos} {g : TG} {tt : TT} {tk tv : TE} {vs : List Nat}
end
end
section
variable {X : Cx} {EK : EKt} {r : Lo} {src : W Src} {p : Pat} {is : List Nat} {mt : List D → W Bool} {mk mv : List D → W D} {own : List (Str × Nat)} {tg iter kx vx : Expr} {ifs : List Expr} {scope : Scope} {pos spos : Pos}
end
end DL
namespace DL
open PySem PySem.Spec L2
section
variable {X : Cx} {EK : EKt} {K : Gx}
end
end DL
set_option maxHeartbeats 2000000
namespace DL
open PySem PySem.Spec L2 PyProof.Rows
section
variable {prog : Program} {w : World} {A : Around} {s : Shared}
end
section
variable {X : Cx} {EK : EKt} {K : Gx}
end
end DL
set_option maxHeartbeats 2000000
namespace DL
open PySem PySem.Spec L2 PyProof.Rows
section
variable {X : Cx} {pins : List (Addr × Obj)} {σ : L2.St} {H : Hp} {s : Shared}
theorem HRel.kept {K : Gx} {H H1 : Hp} {h : DH} (r : HRel K H h) (e : Ext K H H1) (k : ∀ b u, H b = some u → (∀ ps, u ≠ .tbl ps) → H1 b = some u) : HRel K H1 h := fun a o q => by
  have x := r a o q
  have st : ∀ {u : HO}, H a = some u → (∀ ps, u ≠ .tbl ps) → H1 a = H a := fun hu n => by rw [k a _ hu n, hu]
  cases o with
  | tab => exact e.tb _ x
  | lst xs => obtain ⟨vs, p, _⟩ := id x; exact x.stay e (st p (by intro q z; cases z))
  | dT kvs => obtain ⟨vs, p, _⟩ := id x; exact x.stay e (st p (by intro q z; cases z))
  | dK kvs => obtain ⟨vs, p, _⟩ := id x; exact x.stay e (st p (by intro q z; cases z))
  | dS kvs => obtain ⟨vs, p, _⟩ := id x; exact x.stay e (st p (by intro q z; cases z))
  | iset S n => exact x.stay e (st x (by intro q z; cases z))
  | tset xs => exact x.stay e (st x (by intro q z; cases z))
  | ins n fs => obtain ⟨C, dx, l, m, p, _⟩ := id x; exact x.stay e (st p (by intro q z; cases z))
  | exc n fo => obtain ⟨C, ob, dx, m, p, _⟩ := id x; exact x.stay e (st p (by intro q z; cases z))
end
end DL
set_option maxHeartbeats 2000000
namespace DL
open PySem PySem.Spec L2
open PyProof.Rows (envOfC)
section
variable {P : Program} {w : World} {K : PySem.W.Frag} {mg : Str → Option Value} {base : Heap}
end
section
variable {X : Cx} {EK : EKt} {r : Lo} {K : Gx} {e : Expr} {m : W D}
end
end DL
set_option maxHeartbeats 2000000
namespace DL
open PySem PySem.Spec L2
open PyProof.Rows (IntsAre AllBare)
end DL
set_option maxHeartbeats 2000000
namespace DL
open PySem PySem.Spec L2 PyProof.Rows
structure StatK (K : PySem.W.Frag) (C : Addr) (mc : Value) (m : Str) (p g : Addr) : Prop where
  at_ : PySem.W.findCls K (.ref C) mc m = some (.get (.builtin "staticmethod.__get__") (.ref p) .none (.ref C))
  rc : ∃ rest, PySem.W.recIn K p "staticmethod" = some (.ref g :: rest)
  kp : PySem.W.keepIn K (.ref g) = true
def StatF (K : PySem.W.Frag) (mg : Str → Option Value) (n m : Str) (g : Addr) : Prop := ∃ C mc p, mg n = some (.ref C) ∧ ClX.CRead K C mc ∧ StatK K C mc m p g
section
variable {X : Cx} {CX : CXT} {k : Nat} {g C p a dx : Addr} {mc : Value} {fd : FuncData} {ps : List Str} {sp : Sp} {E : XK} {n m f : Str} {pos apos p0 : Pos} {e o : Expr} {es : List Expr} {ta : TE} {t : TA} {fs : List (Str × V)} {dvs : List V} {ds : List Value}
theorem getstat_ok {pl : Sem Bool} {pins : List (Addr × Obj)} {σ : L2.St} {H : Hp} {s : Shared} {A : Around} {E : Value → Shared → Prop} {Q : Value × List Value → Shared → Prop} (I : Inv X pins σ H s) (r : ClX.CRead X.K C mc) (k : StatK X.K C mc m p g)
    (h : ∀ s', Inv X pins σ H s' → Q (.ref g, []) s') : wpAny (model X.prog X.w) A (getMethod (.ref C) m pl) Q E s := by
  obtain ⟨rest, hp⟩ := k.rc
  refine PySem.W.method_cls I.kIn r.ga ?_
  refine PySem.W.cls_bind I.kIn r.rd k.at_ ?_
  exact wpAny_call (PySem.W.sm_get (s := { s with toks := s.toks + 1 }) I.kIn hp (PySem.W.handed_on rfl (h _ (I.tok _))))
theorem pe_stat {pl : Sem Bool} (hg : Gl X n) (hm : X.mg n = some (.ref C)) (r : ClX.CRead X.K C mc) (c : StatK X.K C mc m p g) (F : FnG X.prog X.w X.K X.mg X.base CX k g fd ps sp) (hgd : X.A.guards = some []) (hr : Room k X.A) (hb : Binds X.K fd ps ds) (hd : Vals dvs ds) (hx : Passes CX X E)
    (ha : PA X (e :: es) t) (hdb : (n == ("__debug__" : Str)) = false) (hst : starEach (e :: es) X.env = (false, eval e X.env) :: starEach es X.env) (hpl : (backTo pos (starEach es X.env)).any (·.1) = false)
    (ht : eval (.Call (.Attribute (.Name n p0) m apos) (e :: es) [] pos) X.env = (do
      let ov ← eval (.Name n p0) X.env; standAt apos.atName; let (f, first) ← holding [ov] (getMethod ov m pl)
      callWith pos f first (backTo pos (starEach (e :: es) X.env)) (backToKw pos (keywordEach [] X.env)))) : PE X (.Call (.Attribute (.Name n p0) m apos) (e :: es) [] pos) (tCall sp dvs E t) := by
  refine ⟨fun pins s σ H Q I h => ?_⟩
  have he : PE X (.Name n p0) (tC (.ref C)) := pe_glob hg hm rfl hdb
  refine PySem.W.methodCall_KW (pl := pl) (thn (he.run pins s σ H (fun x H1 => x = V.ref C ∧ H1 = H) I ⟨rfl, rfl⟩) fun u s1 ⟨x, H1, I1, rx, ex, eH⟩ => ?_) ht
  subst ex
  subst eH
  cases (show u = Value.ref C from rx)
  refine getstat_ok I1 r c fun s2 I2 => ?_
  exact PySem.W.callWith_K (first := []) (h₀ := X.base) I2.ok.mod.kin c.kp (thn (ha.run pos pins s2 σ H1 _ I2 h) fun us s3 ⟨vs, H2, I3, rv, q2⟩ => ⟨I3.kIn, run_g (us := us) (vs := vs) F hgd hr hb hd hx I3 rv q2⟩) hst hpl
theorem de_stat {r : Lo} {ms : List (W D)} {fn : List D → W D} {c : Nat} {pl : Sem Bool} (hs : StatF X.K X.mg n m g) (F : FnG X.prog X.w X.K X.mg X.base CX0 k g fd ps (spF X.gx c fn)) (hgd : X.A.guards = some []) (hr : Room k X.A) (hg : Gl X n) (hb : Binds X.K fd ps []) (ha : DA X EK0 r (e :: es) ms) (hl : ms.length = c := by rfl)
    (hdb : (n == ("__debug__" : Str)) = false := by decide +kernel) (hst : starEach (e :: es) X.env = (false, eval e X.env) :: starEach es X.env := by rfl) (hpl : (backTo pos (starEach es X.env)).any (·.1) = false := by rfl)
    (ht : eval (.Call (.Attribute (.Name n p0) m apos) (e :: es) [] pos) X.env = (do
      let ov ← eval (.Name n p0) X.env; standAt apos.atName; let (f, first) ← holding [ov] (getMethod ov m pl)
      callWith pos f first (backTo pos (starEach (e :: es) X.env)) (backToKw pos (keywordEach [] X.env))) := by rfl) :
    DE X EK0 r (.Call (.Attribute (.Name n p0) m apos) (e :: es) [] pos) (eCall fn ms) := by
  obtain ⟨C, mc, p, hm, rd, st⟩ := hs
  exact ⟨pe_weak (pe_stat hg hm rd st F hgd hr hb .nil pass0 ha.pa hdb hst hpl ht) fun σ H Q x => glueA x fun ds h' vs H' e hr rp l hd run => by
    show spF X.gx c fn (vs ++ []) H' Q E0
    rw [List.append_nil]
    exact ⟨ds, h', hd.trans hl, rp, hr, run⟩⟩
end
end DL
set_option maxHeartbeats 2000000
namespace DL
open PySem PySem.Spec L2 PyProof.Rows
def SpF (K : PySem.W.Frag) (mg : Str → Option Value) (n m : Str) (g : Addr) : Prop := ∃ C, mg n = some (.ref C) ∧ PySem.W.findIn K (.ref C) m = some (some (.ref g)) ∧ PySem.W.isFn K (.ref g) = true
def asBool : D → W Bool
  | .bl b => W.pure b
  | _ => W.fail
theorem asBool_inv {d : D} {h : DH} {Q : Bool → DH → Prop} {E : EKt} (q : (asBool d).run h Q E) : ∃ b, d = .bl b ∧ Q b h := by
  cases d with
  | bl b => exact ⟨b, rfl, q⟩
  | _ => exact q.elim
def rEqOwn (X : Gx) (n : Str) (fn : List D → W D) : R2 := fun x y H Q => ∃ a b C dx dy fs gs, x = .ref a ∧ y = .ref b ∧ X.mg n = some (.ref C) ∧ H a = some (.ins C dx fs) ∧ H b = some (.ins C dy gs) ∧ spF X 2 fn [x, y] H (fun v H' => ∃ c, v = .bl c ∧ Q v H') E0
def rInOwn (X : Gx) (n : Str) (fn : List D → W D) (neg : Bool) : R2 := fun x y H Q => ∃ b C dy gs, y = .ref b ∧ X.mg n = some (.ref C) ∧ H b = some (.ins C dy gs) ∧ spF X 2 fn [y, x] H (fun v H' => ∃ c, v = .bl c ∧ Q (.bl (if neg then !c else c)) H') E0
def opEqOwn (n : Str) (fn : List D → W D) (x y : D) : W Bool := (beIns n x).bind fun _ => (beIns n y).bind fun _ => (fn [x, y]).bind asBool
def opInOwn (n : Str) (fn : List D → W D) (x y : D) : W Bool := (beIns n y).bind fun _ => (fn [y, x]).bind asBool
section
variable {X : Cx} {k : Nat} {g : Addr} {fd : FuncData} {ps : List Str} {n : Str} {fn : List D → W D}
theorem o_eqOwn (hm : SpF X.K X.mg n "__eq__" g) (F : FnG X.prog X.w X.K X.mg X.base CX0 k g fd ps (spF X.gx 2 fn)) (hgd : X.A.guards = some []) (hr : Room k X.A) (hb : Binds X.K fd ps []) (hx : Passes CX0 X E0) : OpR X (compareOp .Eq) (rEqOwn X.gx n fn) := by
  intro pins s σ H x y v u Q I rx ry h
  obtain ⟨a, b, C, dx, dy, fs, gs, rfl, rfl, hm1, ha, hb', run⟩ := h
  obtain ⟨C', hm0, hs, hf⟩ := hm
  have e : some (Value.ref C') = some (Value.ref C) := hm0.symm.trans hm1
  cases e
  cases rx
  cases ry
  obtain ⟨mA, J, _⟩ := ins_get I.hok ha
  obtain ⟨mB, J', _⟩ := ins_get I.hok hb'
  obtain ⟨od, J, _⟩ := J.look
  obtain ⟨od', J', _⟩ := J'.look
  obtain ⟨m, hF⟩ := I.fr
  show wpAny _ _ (richCompare .Eq (.ref a) (.ref b)) _ _ _
  refine PySem.W.cmp_K (op := .Eq) (tb := .ref C) hr.units0 hF I.ok.mod.kin J J'.type (by simp [PySem.W.notFirst]) hs hf ?_
  refine wpAny_mono (run_g (us := [.ref a, .ref b]) (vs := [.ref a, .ref b]) F hgd hr hb .nil hx I (.cons rfl (.cons rfl .nil)) (by rw [List.append_nil]; exact run)) (fun w s' z => ?_) fun _ _ z => z
  obtain ⟨v', H', I', rv, c, rfl, q⟩ := z
  cases rv
  exact ⟨.bl c, H', I', rfl, q⟩
theorem o_inOwn (hm : SpF X.K X.mg n "__contains__" g) (F : FnG X.prog X.w X.K X.mg X.base CX0 k g fd ps (spF X.gx 2 fn)) (hgd : X.A.guards = some []) (hr : Room k X.A) (hb : Binds X.K fd ps []) (hx : Passes CX0 X E0) : OpR X (compareOp .In) (rInOwn X.gx n fn false) := by
  intro pins s σ H x y v u Q I rx ry h
  obtain ⟨b, C, dy, gs, rfl, hm1, hb', run⟩ := h
  obtain ⟨C', hm0, hs, hf⟩ := hm
  have e : some (Value.ref C') = some (Value.ref C) := hm0.symm.trans hm1
  cases e
  cases ry
  obtain ⟨mB, J', _⟩ := ins_get I.hok hb'
  obtain ⟨od', J', _⟩ := J'.look
  obtain ⟨m, hF⟩ := I.fr
  refine PySem.W.in_K hF I.ok.mod.kin J' hs hf ?_
  refine wpAny_mono (run_g (us := [.ref b, v]) (vs := [.ref b, x]) F hgd hr hb .nil hx I (.cons rfl (.cons rx .nil)) (by rw [List.append_nil]; exact run)) (fun w s' z => ?_) fun _ _ z => z
  obtain ⟨v', H', I', rv, c, rfl, q⟩ := z
  cases rv
  exact wpAny_truthy_bool ⟨.bl c, H', I', rfl, q⟩
end
section
variable {K : Gx} {n : Str} {fn : List D → W D}
theorem s_eqOwn : SimC K EK0 (rEqOwn K n fn) (opEqOwn n fn) := fun H h x y d e Q hr rx ry run => by
  unfold opEqOwn at run
  obtain ⟨a, C, dx, fs, rfl, hm, ha, run⟩ := be_there hr rx run
  obtain ⟨b, C2, dy, gs, rfl, hm2, hb, run⟩ := be_there hr ry run
  rw [hm] at hm2
  cases hm2
  refine ⟨a, b, C, dx, dy, fs, gs, rfl, rfl, hm, ha, hb, [d, e], h, rfl, .cons rx (.cons ry .nil), hr, (fn [d, e]).mono (fun z h1 q v H1 e1 hr1 rp1 => ?_) run⟩
  obtain ⟨c, rfl, q⟩ := asBool_inv q
  cases rp1
  exact ⟨c, rfl, q H1 e1 hr1⟩
theorem s_inOwng (neg : Bool) : SimC K EK0 (rInOwn K n fn neg) (fun x y => (opInOwn n fn x y).bind fun b => W.pure (if neg then !b else b)) := fun H h x y d e Q hr rx ry run => by
  unfold opInOwn at run
  obtain ⟨b, C, dy, gs, rfl, hm, hb, run⟩ := be_there hr ry run
  refine ⟨b, C, dy, gs, rfl, hm, hb, [e, d], h, rfl, .cons ry (.cons rx .nil), hr, (fn [e, d]).mono (fun z h1 q v H1 e1 hr1 rp1 => ?_) run⟩
  obtain ⟨c, rfl, q⟩ := asBool_inv q
  cases rp1
  exact ⟨c, rfl, q H1 e1 hr1⟩
theorem s_inOwn : SimC K EK0 (rInOwn K n fn false) (opInOwn n fn) := fun H h x y d e Q hr rx ry run => s_inOwng false H h x y d e Q hr rx ry (by exact run)
end
end DL
set_option maxHeartbeats 2000000
namespace DL
open PySem PySem.Spec L2 PyProof.Rows
theorem bool_new_own {prog : Program} {w : World} {x : Addr} :
    MeetsIn prog w (Builtin.«bool.__new__» ⟨[.type "bool", .ref x], []⟩) (fun A R s => wpAny (model prog w) A.in1 (truthy (.ref x)) (fun b s' => R (.ok (.ret (.bool b))) s') (fun e s' => R (.error e) s') s) :=
  .of_wp fun A R s h => by
    obtain ⟨hp, g, d, tk, os⟩ := s
    have f1 := F.conv_sub_bool
    repeat (any_goals (first | assumption | (with_reducible refine wpAny_mono h (fun b s' q => ?_) fun _ _ z => z) | wp_step))
    exact ⟨_, rfl, q⟩
theorem call_bool_own {prog : Program} {w : World} {A : Around} {E : Value → Shared → Prop} {s : Shared} {x : Addr} {Q : Value → Shared → Prop} (h : wpAny (model prog w) A.in1.in1 (truthy (.ref x)) (fun b s' => Q (.bool b) s') E s) :
    wpAny (model prog w) A (call (.type "bool") [.ref x]) Q E s := by
  refine callType_newIn F.called_bool F.newNe_bool (F.typeCall_bool_1 _) (F.newCall_bool_1 _) (fun obj => F.args_object_init_2 obj _) F.entry_bool_new bool_new_own ?_
  exact wpAny_mono h (fun b s' q => ⟨rfl, q⟩) fun _ _ z => z
def rBoolOwn (X : Gx) (n : Str) (fn : List D → W D) : List V → Hp → VK → Prop := fun xs H Q => ∃ b C dy gs, xs = [.ref b] ∧ X.mg n = some (.ref C) ∧ H b = some (.ins C dy gs) ∧ spF X 1 fn xs H (fun v H' => ∃ c, v = .bl c ∧ Q v H') E0
def bBoolOwn (n : Str) (fn : List D → W D) : List D → W D
  | [x] => (beIns n x).bind fun _ => (fn [x]).bind fun d => (asBool d).bind fun b => W.pure (.bl b)
  | _ => W.fail
section
variable {X : Cx} {k : Nat} {g : Addr} {fd : FuncData} {ps : List Str} {n : Str} {fn : List D → W D}
theorem cr_boolOwn (hm : SpF X.K X.mg n "__bool__" g) (F : FnG X.prog X.w X.K X.mg X.base CX0 k g fd ps (spF X.gx 1 fn)) (hgd : X.A.guards = some []) (hr : Room (k + 2) X.A) (hb : Binds X.K fd ps []) : CallR X (.type "bool") (rBoolOwn X.gx n fn) := by
  intro pins s σ H xs us Q I r h
  obtain ⟨b, C, dy, gs, rfl, hm1, hb', run⟩ := h
  obtain ⟨C', hm0, hs, hf⟩ := hm
  have e : some (Value.ref C') = some (Value.ref C) := hm0.symm.trans hm1
  cases e
  obtain rfl := Vals.ref1 r
  obtain ⟨mB, J', _⟩ := ins_get I.hok hb'
  obtain ⟨od', J', _⟩ := J'.look
  obtain ⟨m, hF⟩ := I.fr
  have sb : L2.Sub X k X.A.in1.in1 := L2.Sub.in1 (L2.Sub.in1 (n := k + 1) ⟨hr, rfl⟩)
  refine call_bool_own (PySem.W.truthy_K hF I.ok.mod.kin J' hs hf ?_)
  have e0 : Env0 X.prog X.w X.K X.mg X.base X.A.in1.in1 X.stack s H := by
    have e := I.env0
    exact ⟨by rw [sb.fr]; exact e.frames, e.mod, e.bs, e.bsz, e.funs, e.frf, e.hok, e.bare⟩
  have hl := F.len _ _ _ _ run
  refine wpAny_call (codeAny_mono (F.run X.A.in1.in1 X.stack s H ⟨[.ref b], []⟩ [.ref b] [.ref b] _ E0 hgd sb.room e0 (by
    have := hb s [.ref b] I.kIn (by simpa using hl)
    simpa using this) (.cons rfl .nil) run) fun r s' hq => ?_)
  match r, hq with
  | .error e, hq => exact (show Passes CX0 X E0 from pass0) pins σ H s e s' I hq
  | .ok (.ret u), hq =>
    obtain ⟨z, H', I', rz, c, rfl, q⟩ := I.after hq
    cases rz
    exact ⟨.bl c, H', I', rfl, q⟩
end
theorem s_boolOwn {K : Gx} {n : Str} {fn : List D → W D} : SimL K EK0 (rBoolOwn K n fn) (bBoolOwn n fn) := fun H h xs ds Q hr rp run => by
  unfold bBoolOwn at run
  split at run
  · rename_i x
    obtain ⟨v, rfl, rv⟩ := reps1 rp
    obtain ⟨b, C, dy, gs, rfl, hm, hb, run⟩ := be_there hr rv run
    refine ⟨b, C, dy, gs, rfl, hm, hb, [x], h, rfl, .cons rv .nil, hr, (fn [x]).mono (fun z h1 q v H1 e1 hr1 rp1 => ?_) run⟩
    obtain ⟨c, rfl, q⟩ := asBool_inv q
    cases rp1
    exact ⟨c, rfl, q _ H1 e1 hr1 (.bl _)⟩
  · exact run.elim
end DL
set_option maxHeartbeats 2000000
namespace DL
open PySem PySem.Spec L2 PyProof.Rows
theorem pick_range {α : Type} (d : α) (xs : List α) : pick (List.range xs.length) d xs = xs := by
  unfold pick
  apply List.ext_getElem
  · rw [List.length_map, List.length_range]
  · intro i h1 h2
    rw [List.getElem_map, List.getElem_range, List.getD_eq_getElem?_getD, List.getElem?_eq_getElem h2]
    rfl
section
variable {X : Cx} {k : Nat} {g : Addr} {fd : FuncData} {ps kn : List Str} {n m : Str} {fn : List D → W D} {r : Lo} {o e : Expr} {kws : List Keyword} {mo me : W D} {ks : List (W D)} {c : Nat} {gi : List Nat} {pos apos p p2 : Pos} {x : Str}
theorem de_methK0 {pl : Sem Bool} (hm : MethF X.K X.mg n m g) (he : DE X EK0 r o mo) (F : FnG X.prog X.w X.K X.mg X.base CX0 k g fd ps (spF X.gx c fn)) (hgd : X.A.guards = some []) (hr : Room k X.A) (hb : KwB X.K fd ps kn 1 gi) (hkw : DK X EK0 r kws ks)
    (ho : gi = List.range c) (h2 : ks.length = kn.length) (hc : 1 + ks.length = c)
    (hall : (backToKw pos (keywordEach kws X.env)).all (·.1.isSome) = true := by rfl) (hks : (backToKw pos (keywordEach kws X.env)).filterMap (·.1) = kn := by rfl)
    (hpl : ((backTo pos (starEach [] X.env)).any (·.1) || (backToKw pos (keywordEach kws X.env)).any (·.1.isNone)) = false := by rfl)
    (ht : eval (.Call (.Attribute o m apos) [] kws pos) X.env = (do
      let ov ← eval o X.env; standAt apos.atName; let (f, first) ← holding [ov] (getMethod ov m pl)
      callWith pos f first (backTo pos (starEach [] X.env)) (backToKw pos (keywordEach kws X.env))) := by rfl) :
    DE X EK0 r (.Call (.Attribute o m apos) [] kws pos) (eMethC n m fn mo ks) := by
  obtain ⟨C, hm0, hc0, hmm⟩ := hm
  refine ⟨⟨fun pins s σ H Q I y => ?_⟩⟩
  obtain ⟨h, l, hh, run⟩ := y
  have key : tE X.gx EK0 r mo σ H fun x H1 => ∃ a dx fs, x = .ref a ∧ H1 a = some (.ins C dx fs) ∧ fs.lookup m = none ∧ tA X.gx EK0 r (eArgs ks) σ H1 fun zs H2 => zs.length = kn.length ∧ spF X.gx c fn (.ref a :: zs) H2 Q E0 := by
    refine ⟨h, l, hh, mo.mono (fun x h1 q v H1 e1 hr1 rp1 => ?_) run⟩
    obtain ⟨a, C', dx, fs, rfl, hm1, hH, hn, q⟩ := is_there hr1 rp1 q
    have hm2 : X.mg n = some (.ref C') := hm1
    rw [hm0] at hm2
    cases hm2
    refine ⟨a, dx, fs, rfl, hH, hn, h1, l.mono e1, hr1, (eArgs ks).mono (fun ds h2' ⟨hds, q2⟩ vs H2 e2 hr2 rp2 => ?_) (eArgs_len ks q)⟩
    refine ⟨by rw [rp2.length, hds, h2], x :: ds, h2', by rw [List.length_cons, hds]; omega, .cons (rp1.mono e2) rp2, hr2, (fn _).mono (fun d h3 q3 v H3 e3 hr3 rp3 => q3 v H3 (e1.trans (e2.trans e3)) hr3 rp3) q2⟩
  refine PySem.W.methodCall_KW (pl := pl) (thn (he.pe.run pins s σ H _ I key) fun u s1 ⟨x, H1, I1, rx, a, dx, fs, ex, ea, l1, q⟩ => ?_) ht
  subst ex
  cases (show u = Value.ref a from rx)
  refine getmeth_ok I1 ea hc0 hmm l1 ?_
  refine PySem.W.callWith_KW0 (first := [.ref a]) (h₀ := X.base) I1.ok.mod.kin hmm.kp hall ?_ hpl
  refine thn (hkw.pk.run pos pins s1 σ H1 _ I1 q) fun ws s2 ⟨zs, H2, I2, rz, hz, q2⟩ => ⟨I2.kIn, ?_⟩
  rw [hks]
  have lz : ws.length = kn.length := rz.length.symm.trans hz
  refine run_gk (us := [.ref a]) (vs := [.ref a]) F hgd hr hb I2 (.cons rfl .nil) rz rfl lz ?_
  have l3 : (V.ref a :: zs).length = c := by rw [List.length_cons, hz, ← h2]; omega
  have ep : pick gi V.non ([V.ref a] ++ zs) = V.ref a :: zs := by
    rw [ho, ← l3]
    exact pick_range _ _
  rw [ep]
  exact q2
def IsiF (K : PySem.W.Frag) (mg : Str → Option Value) (n : Str) : Prop := ∃ C, mg n = some (.ref C) ∧ ∀ (H : Hp) (a dx : Addr) (fs : List (Str × V)), H a = some (.ins C dx fs) → TyOf K H (.ref a) (.ref C)
def bIsiOwn (n : Str) (d : D) : W D := (beIns n d).bind fun _ => W.pure (.bl true)
theorem de_isiOwn {EK : EKt} (hi : IsiF X.K X.mg n) (he : DE X EK r e me) (hg : Gl X "isinstance") (hm : X.mg "isinstance" = none) (hgn : Gl X n)
    (hdb : (n == ("__debug__" : Str)) = false := by decide +kernel) (hs : starEach [e, .Name n p2] X.env = (false, eval e X.env) :: starEach [.Name n p2] X.env := by rfl) (hs2 : starEach [.Name n p2] X.env = (false, eval (.Name n p2) X.env) :: starEach [] X.env := by rfl) (hpl : (backTo pos (starEach [.Name n p2] X.env)).any (·.1) = false := by rfl) :
    DE X EK r (.Call (.Name "isinstance" p) [e, .Name n p2] [] pos) (me.bind (bIsiOwn n)) := by
  obtain ⟨C, hc, ty⟩ := hi
  have hn : PE X (.Name n p2) (tC (.ref C)) := pe_glob hgn hc rfl hdb
  refine ⟨pe_weak (pe_callB call_isi hg hm rfl (pa_cons he.pe (pa_cons hn pa_nil hs2) hs) (by decide +kernel) (by decide +kernel) hs hpl) ?_⟩
  intro σ H Q ⟨h, l, hh, run⟩
  refine ⟨h, l, hh, me.mono (fun x h1 q v H1 e1 hr1 rp1 => ?_) run⟩
  unfold bIsiOwn at q
  obtain ⟨a, C', dx, fs, rfl, hm1, hH, q⟩ := be_there hr1 rp1 q
  have hm2 : X.mg n = some (.ref C') := hm1
  rw [hc] at hm2
  cases hm2
  exact ⟨.ref a, .ref C, .ref C, .ref C, true, rfl, .own C, .base (ty H1 a dx fs hH), by unfold PySem.W.kitOne; simp, q (.bl true) H1 e1 hr1 (.bl true)⟩
end
end DL
set_option maxHeartbeats 2000000
namespace DL
open PySem PySem.Spec L2 PyProof.Rows
def dedI (ns : List Int) : List Int := ns.foldl step_dedup []
theorem range_getD (ns : List Int) : (List.range ns.length).map (fun i => ns.getD i 0) = ns := by
  apply List.ext_getElem
  · rw [List.length_map, List.length_range]
  · intro i h1 h2
    rw [List.getElem_map, List.getElem_range, List.getD_eq_getElem?_getD, List.getElem?_eq_getElem h2]
    rfl
theorem first_ded (ns : List Int) : firstMet (fun i => ns.getD i 0) ns.length = dedI ns := by
  unfold firstMet dedI
  rw [range_getD]
theorem ded_mem {ns : List Int} {k : Int} : k ∈ dedI ns ↔ k ∈ ns := by
  have h := firstMet_any (fun i => ns.getD i 0) ns.length k
  rw [first_ded, range_getD] at h
  have a : ∀ l : List Int, l.any (· == k) = true ↔ k ∈ l := fun l => by
    rw [List.any_eq_true]
    exact ⟨fun ⟨y, hy, e⟩ => eq_of_beq e ▸ hy, fun hy => ⟨k, hy, by simp⟩⟩
  rw [← a, ← a, h]
theorem ded_step (acc : List Int) (k : Int) : step_dedup acc k = if k ∈ acc then acc else acc ++ [k] := by
  unfold step_dedup
  by_cases h : k ∈ acc
  · rw [if_pos h, if_pos (List.any_eq_true.mpr ⟨k, h, by simp⟩)]
  · rw [if_neg h, if_neg]
    intro z
    obtain ⟨y, hy, e⟩ := List.any_eq_true.mp z
    exact h (eq_of_beq e ▸ hy)
theorem ded_nodup (ns : List Int) : (dedI ns).Nodup := by
  have key : ∀ (ns acc : List Int), acc.Nodup → (ns.foldl step_dedup acc).Nodup := by
    intro ns
    induction ns with
    | nil => exact fun _ h => h
    | cons k ns ih =>
      intro acc h
      rw [List.foldl_cons, ded_step]
      refine ih _ ?_
      by_cases z : k ∈ acc
      · rw [if_pos z]; exact h
      · rw [if_neg z, List.nodup_append]
        exact ⟨h, by simp, fun x hx y hy e => by rw [List.mem_singleton] at hy; rw [e, hy] at hx; exact z hx⟩
  exact key ns [] .nil
theorem ded_len (ns : List Int) : (dedI ns).length ≤ ns.length := by
  have := firstMet_length_le (fun i => ns.getD i 0) ns.length
  rw [first_ded] at this
  exact this
def tLenSetD (K : PySem.W.Frag) (ta : TE) : TE := fun σ H Q => ta σ H fun x H1 => ∃ (l : Addr) (ns : List Int), x = .ref l ∧ SqL K H1 l (ns.map V.int) ∧ ns.length ≤ 1000 ∧ Q (.int ((dedI ns).length : Nat)) H1
theorem ints_vals : ∀ {ns : List Int} {us : List Value}, Vals (ns.map V.int) us → IntsAre us ns
  | [], _, .nil => .nil
  | n :: ns, _, .cons r t => by
    obtain ⟨k, rfl⟩ := r
    exact .cons n k (ints_vals t)
theorem pe_lenSetD {X : Cx} {a : Expr} {ta : TE} {p p2 q pos : Pos} (hg : Gl X "len") (hm : X.mg "len" = none) (hg2 : Gl X "set") (hm2 : X.mg "set" = none) (ha : PE X a ta) (hc : X.calm = true := by rfl)
    (na : starEach [a] X.env = (false, eval a X.env) :: starEach [] X.env := by rfl) : PE X (.Call (.Name "len" p) [.Call (.Name "set" p2) [a] [] q] [] pos) (tLenSetD X.K ta) := by
  refine ⟨fun pins s σ H Q I h => ?_⟩
  refine Call_ (ld_blt I hg hm boot_len ?_)
  refine callWith_builtin1 (args_cons ?_ rfl) rfl rfl
  refine Call_ (ld_blt I hg2 hm2 boot_set ?_)
  refine callWith_type1 (args_cons (thn (ha.run pins s σ H _ I h) fun v s1 ⟨x, H1, I1, r1, q1⟩ => args_nil ?_) na) na rfl
  obtain ⟨l, ns, rfl, hq, hl, q1⟩ := q1
  cases r1
  obtain ⟨its, r, pl, hz⟩ := I1.list hq
  have hlen : its.toArray.size = ns.length := by rw [List.size_toArray, ← r.length, List.length_map]
  refine call_set_list (I1.ok.hd hc) pl.isList (by simpa using ints_vals r) (by rw [hlen]; unfold scanBound; omega) fun h' tk hS hk => ?_
  refine args_nil ?_
  rw [hlen, first_ded] at hS
  have ln := ded_len ns
  obtain ⟨o, es, ep, t, ho, hex, hd, _, _, _, hf, hn⟩ := hS
  have I2 : Inv X pins σ H1 { s1 with heap := h', toks := tk } := I1.kept fun b o e => hk b o (Heap.lt_size e) e
  exact call_len_set ho hex hd hf (by rw [hn] <;> omega) ⟨.int (dedI ns).length, H1, I2.tok _, ⟨_, by rw [hn]⟩, q1⟩
def bLenSetI (d : D) : W D := ⟨fun h Q _ => ∃ ns : List Int, LstI h d (ns.map D.int) ∧ ns.length ≤ 1000 ∧ Q (.int ((dedI ns).length : Nat)) h, fun g ⟨a, b, c, k⟩ => ⟨a, b, c, g _ _ k⟩⟩
theorem reps_intsD {K : Gx} {H : Hp} : ∀ {ns : List Int} {vs : List V}, Reps K H vs (ns.map D.int) → vs = ns.map V.int
  | [], _, .nil => rfl
  | n :: ns, _, .cons a r => by
    cases a
    rw [reps_intsD r]
    rfl
theorem de_lenSetI {X : Cx} {EK : EKt} {r : Lo} {a : Expr} {ma : W D} {p p2 q pos : Pos} (hg : Gl X "len") (hm : X.mg "len" = none) (hg2 : Gl X "set") (hm2 : X.mg "set" = none) (ha : DE X EK r a ma) (hc : X.calm = true := by rfl)
    (na : starEach [a] X.env = (false, eval a X.env) :: starEach [] X.env := by rfl) : DE X EK r (.Call (.Name "len" p) [.Call (.Name "set" p2) [a] [] q] [] pos) (ma.bind bLenSetI) := by
  refine ⟨pe_weak (pe_lenSetD hg hm hg2 hm2 ha.pe hc na) ?_⟩
  intro σ H Q ⟨h, l, hh, run⟩
  refine ⟨h, l, hh, ma.mono (fun x h1 q v H1 e1 hr1 rp1 => ?_) run⟩
  obtain ⟨ns, i, hl, q⟩ := q
  obtain ⟨p, vs, rfl, sv, rr⟩ := i.rep hr1 rp1
  rw [reps_intsD rr] at sv
  exact ⟨p, ns, rfl, sv.list, hl, q (.int _) H1 e1 hr1 (.int _)⟩
end DL
namespace DL
open PySem PySem.Spec PyProof.Rows L2
def tDispT (K : Gx) (tk tv : TE) : TE := fun σ H Q => ∀ p, H p = none → tk σ (L2.upd H p (DictO K.P K.w p [])) fun y H1 => tv σ H1 fun z H2 => PutTR K p y z H2 (fun H3 => Q (.ref p) H3)
theorem pe_dispT {X : Cx} {pos : Pos} {k v : Expr} {tk tv : TE} (hu : X.A.units + 64 < cLine) (hk : PE X k tk) (hv : PE X v tv) : PE X (.Dict [some k] [v] pos) (tDispT X.gx tk tv) := by
  refine ⟨fun pins s σ H Q I q => ?_⟩
  have hn := I.hok.fresh (Nat.le_refl s.heap.objs.size)
  have I1 := laid_T I
  rw [arm_eval_Dict, zip_pairTrees [some k] [v] X.env pos rfl rfl, dictDisplay_pairs _ (by simp [pairTrees]) (by simp [pairTrees])]
  refine wpAny_bind (wpAny_standAt (wpAny_bind ?_))
  unfold subDict
  refine wpAny_bind (wpAny_alloc ?_)
  refine wpAny_bind (wpAny_holding ?_)
  rw [if_pos (by simp [pairTrees])]
  refine wpAny_bind (pairTrees_cons_walk (thn (hk.run pins _ σ _ _ I1 (q _ hn)) fun u s1 ⟨x, H1, I1, rx, q1⟩ => thn (hv.run pins s1 σ H1 _ I1 q1) fun w2 s2 ⟨y, H2, I2, ry, q2⟩ => pairTrees_nil_walk ?_))
  obtain ⟨bb, l, kvs, kk, ek, hD, pr, rk, ko, kd, hl, nx⟩ := q2
  subst ek
  cases rx
  refine wpAny_holding ?_
  refine wpAny_bind ?_
  rw [List.forIn_cons]
  refine wpAny_bind (wpAny_bind (put_T (by omega) I2 hD pr rk ko kd hl ry fun s3 I3 => wpAny_pure ?_))
  show wpAny _ _ (forIn [] PUnit.unit _) _ _ _
  rw [List.forIn_nil]
  exact wpAny_pure (wpAny_pure (wpAny_pure (wpAny_pure ⟨.ref _, _, I3, rfl, nx⟩)))
@[reducible] def eDispT (mk mv : W D) : W D := (W.new (.dT [])).bind fun p => mk.bind fun k => mv.bind fun v => (stT p k v).bind fun _ => W.pure p
theorem de_dispT {X : Cx} {EK : EKt} {r : Lo} {pos : Pos} {k v : Expr} {mk mv : W D} (hu : X.A.units + 64 < cLine) (hk : DE X EK r k mk) (hv : DE X EK r v mv) : DE X EK r (.Dict [some k] [v] pos) (eDispT mk mv) := by
  refine ⟨pe_weak (pe_dispT hu hk.pe hv.pe) ?_⟩
  rintro σ H Q ⟨h, l, hr, run⟩
  intro p hp
  have run := run p (hr.none hp)
  have eL : Ext X.gx H (L2.upd H p (DictO X.prog X.w p [])) := Ext.laid hp
  have r0 : HRel X.gx (L2.upd H p (DictO X.prog X.w p [])) (h.upd p (.dT [])) := hr.laid (d := .dT []) hp ⟨[], upd_same, .nil⟩
  refine ⟨_, l.mono eL, r0, mk.mono (fun d h1 q1 x H1 e1 hr1 rx => ?_) run⟩
  refine ⟨h1, l.mono (eL.trans e1), hr1, mv.mono (fun f h2 q2 y H2 e2 hr2 ry => ?_) q1⟩
  obtain ⟨kvs, ha, hi, ko, kd, hl, q3⟩ := q2
  have rx2 := rx.mono e2
  match d, rx2, hi, ko, kd, q3 with
  | .tup ks, @Rep.tup _ _ b vs _ sq rr, hi, ko, kd, q3 =>
    obtain ⟨l0, he, pr⟩ := hr2 p _ ha
    have ex : Ext X.gx H2 (L2.upd H2 p (DictO X.prog X.w p (putL l0 (nk (.tup ks)) b y))) := Ext.wrote he (fun _ w => by cases w) (fun _ _ w => by cases w)
    refine ⟨b, l0, kvs, .tup ks, rfl, he, pr, .tup sq rr, ko, kd, by rw [Paired.length pr]; exact hl, q3 (.ref p) _ (eL.trans (e1.trans (e2.trans ex))) (hr2.wrote he (fun _ w => by cases w) (fun _ _ w => by cases w) ⟨_, upd_same, ?_⟩) (.ref p)⟩
    exact L2.Paired.mapP (putL_D pr kd ko (.tup sq rr) ry) fun _ _ ⟨a, b, c, d, f⟩ => ⟨a, b, c, d.mono ex, f.mono ex⟩
end DL
namespace DL
open PySem PySem.Spec PyProof.Rows L2
def rMulS (K : PySem.W.Frag) : R2 := fun x y H Q => ∃ i k, x = .str i ∧ y = .int k ∧ (k = 0 ∨ k = 1) ∧ Q (.str (if k = 1 then i else Str.empty)) H
theorem op_mulS {X : Cx} : OpR X (binaryOp .Mult) (rMulS X.K) := by
  intro pins s σ H x y v u Q I rx ry h
  obtain ⟨i, k, rfl, rfl, hk, q⟩ := h
  obtain ⟨t, rfl⟩ := rx
  obtain ⟨t2, rfl⟩ := ry
  rcases hk with rfl | rfl
  · exact P.mul_str_none (by decide) (by decide) ⟨.str Str.empty, H, I.tok _, ⟨_, rfl⟩, q⟩
  · refine P.mul_str (by decide) (fun _ h => by simp at h) (fun _ h => by simp at h) ?_
    rw [if_neg (by decide), if_pos (by simp)]
    exact ⟨.str i, H, I, ⟨_, rfl⟩, q⟩
def opMulS : D → D → W D
  | .str s, .int k => W.need (k = 0 ∨ k = 1) (W.pure (.str (if k = 1 then s else Str.empty)))
  | _, _ => W.fail
theorem s_mulS {K : Gx} {EK : EKt} : Sim2 K EK (rMulS K.K) opMulS := fun H h x y d e Q hr rx ry run => by
  unfold opMulS at run
  split at run
  · rw [rep_int ry, rep_str rx]
    exact ⟨_, _, rfl, rfl, run.1, run.2 _ H Ext.refl hr (.str _)⟩
  · exact run.elim
theorem de_mulS {X : Cx} {EK : EKt} {r : Lo} {a b : Expr} {ma mb : W D} {pos : Pos} (ha : DE X EK r a ma) (hb : DE X EK r b mb) : DE X EK r (.BinOp a .Mult b pos) (e2 opMulS ma mb) := de_bin op_mulS s_mulS ha hb
end DL
namespace DL
open PySem L2
mutual
def shP : D → PyData
  | .bl b => .bool b
  | .int i => .int i
  | .str s => .str s
  | .tup xs => .tuple (shPs xs)
  | .cl xs => .list (shPs xs)
  | _ => .none
def shPs : List D → List PyData
  | [] => []
  | x :: xs => shP x :: shPs xs
end
mutual
def wP : D → Nat
  | .int _ => 140
  | .str s => s.length
  | .tup xs => wPs xs
  | .cl xs => wPs xs
  | _ => 0
def wPs : List D → Nat
  | [] => 0
  | x :: xs => wP x + 1 + wPs xs
end
mutual
def dP : D → Nat
  | .tup xs => dPs xs + 1
  | .cl xs => dPs xs + 1
  | _ => 0
def dPs : List D → Nat
  | [] => 0
  | x :: xs => max (dP x) (dPs xs)
end
inductive PO : D → Prop
  | non : PO .non
  | bl (b : Bool) : PO (.bl b)
  | int (i : Int) : i.natAbs < 10 ^ 40 → PO (.int i)
  | str (s : Str) : PyData.strOk s = true → PO (.str s)
  | tup {xs : List D} : (∀ x ∈ xs, PO x) → PO (.tup xs)
  | cl {xs : List D} : (∀ x ∈ xs, PO x) → PO (.cl xs)
theorem po_int {i : Int} (h : i.natAbs < 10 ^ 40) : (PyData.shown (.int i)).length ≤ 41 ∧ i.natAbs.log2 < 1920 ∧ (PyData.int i).weight ≤ 140 := by
  have lg : i.natAbs.log2 < 135 := by
    by_cases hz : i.natAbs = 0
    · rw [hz]; decide
    · have := (Nat.log2_lt hz).mpr (Nat.lt_of_lt_of_le h (by decide : 10 ^ 40 ≤ 2 ^ 133))
      omega
  refine ⟨?_, by omega, ?_⟩
  · have e := PySem.int_text_length_le10 (k := 40) (by decide) h
    show (Str.ofString (toString i)).length ≤ 41
    rw [PySem.ofString_length]; exact e
  · rw [PyData.weight]
    split <;> omega
structure POs (h : DH) (xs : List D) : Prop where
  q : PyQs h xs (shPs xs)
  l : PyData.leavesShortAll 41 (shPs xs) = true
  s : PyData.showableAll (shPs xs) = true
  w : PyData.weightAll (shPs xs) ≤ wPs xs
  d : PyData.depthAll (shPs xs) ≤ dPs xs
structure PO1 (h : DH) (x : D) : Prop where
  q : PyQ h x (shP x)
  l : PyData.leavesShort 41 (shP x) = true
  s : (shP x).showable = true
  w : (shP x).weight ≤ wP x
  d : (shP x).depth ≤ dP x
theorem pos_of {h : DH} : ∀ {xs : List D}, (∀ x ∈ xs, PO1 h x) → POs h xs
  | [], _ => ⟨.nil, rfl, rfl, Nat.le_refl _, Nat.le_refl _⟩
  | x :: xs, o => by
    have a := o x List.mem_cons_self
    have b := pos_of (xs := xs) fun y hy => o y (List.mem_cons_of_mem _ hy)
    have e : shPs (x :: xs) = shP x :: shPs xs := by rw [shPs]
    refine ⟨by rw [e]; exact .cons a.q b.q, ?_, ?_, ?_, ?_⟩
    · rw [e, PyData.leavesShortAll, a.l, b.l]; rfl
    · rw [e, PyData.showableAll, a.s, b.s]; rfl
    · rw [e, PyData.weightAll, wPs]; have := a.w; have := b.w; omega
    · rw [e, PyData.depthAll, dPs]; have := a.d; have := b.d; omega
theorem po_one {h : DH} {x : D} (o : PO x) : PO1 h x := by
  induction o with
  | non => exact ⟨.non, rfl, rfl, Nat.le_refl _, Nat.le_refl _⟩
  | bl b => exact ⟨.bl, rfl, rfl, Nat.le_refl _, Nat.le_refl _⟩
  | int i hi =>
    obtain ⟨a, b, c⟩ := po_int hi
    refine ⟨by rw [shP]; exact .int, ?_, ?_, ?_, ?_⟩
    · rw [shP, PyData.leavesShort]; exact decide_eq_true a
    · rw [shP, PyData.showable]; exact decide_eq_true b
    · rw [shP, wP]; exact c
    · rw [shP, PyData.depth]
      exact Nat.zero_le _
  | str s hs =>
    refine ⟨by rw [shP]; exact .str, ?_, ?_, ?_, ?_⟩
    · rw [shP]; exact PyData.leavesShort_of_canLay0 41 (.str s) hs rfl
    · rw [shP, PyData.showable]
    · rw [shP, wP, PyData.weight]; exact Nat.le_refl _
    · rw [shP, PyData.depth]
      exact Nat.zero_le _
  | tup _ ih =>
    have a := pos_of ih
    refine ⟨by rw [shP]; exact .tup a.q, ?_, ?_, ?_, ?_⟩
    · rw [shP, PyData.leavesShort]; exact a.l
    · rw [shP, PyData.showable]; exact a.s
    · rw [shP, wP, PyData.weight]; exact a.w
    · rw [shP, dP, PyData.depth]; have := a.d; omega
  | cl _ ih =>
    have a := pos_of ih
    refine ⟨by rw [shP]; exact .cl a.q, ?_, ?_, ?_, ?_⟩
    · rw [shP, PyData.leavesShort]; exact a.l
    · rw [shP, PyData.showable]; exact a.s
    · rw [shP, wP, PyData.weight]; exact a.w
    · rw [shP, dP, PyData.depth]; have := a.d; omega
structure Sh (d : D) : Prop where
  o : PO d
  w : wP d ≤ 380000
  d : dP d ≤ 60
theorem repr_q2 {d : D} (o : Sh d) {h : DH} {K : PyData → Prop} (k : K (shP d)) : ∃ p, PyQ h d p ∧ p.showable = true ∧ p.shown.length ≤ sizeLine ∧ p.depth ≤ 60 ∧ K p := by
  have a := po_one (h := h) o.o
  refine ⟨shP d, a.q, a.s, ?_, Nat.le_trans a.d o.d, k⟩
  have l0 := PyData.shown_le 41 (by decide) (shP d) a.l
  have := a.w; have := o.w
  rw [sizeLine_eq]
  have : (41 + 2) * (shP d).weight ≤ 43 * 380000 := Nat.mul_le_mul (by decide) (by omega)
  omega
mutual
theorem eqv_same : ∀ (d : D), PO d → PyData.eqv (shP d) (shP d) = true
  | .non, _ => rfl
  | .bl b, _ => by rw [shP, PyData.eqv]; exact beq_self_eq_true b
  | .int i, _ => by rw [shP, PyData.eqv]; exact beq_self_eq_true i
  | .str s, _ => by rw [shP, PyData.eqv]; exact beq_self_eq_true s
  | .tup xs, o => by
    rw [shP, PyData.eqv]
    exact eqvs_same xs (by cases o with | tup h => exact h)
  | .cl xs, o => by
    rw [shP, PyData.eqv]
    exact eqvs_same xs (by cases o with | cl h => exact h)
  | .cd _ _, o => nomatch o
  | .dk _ _, o => nomatch o
  | .ty _, o => nomatch o
  | .gl _, o => nomatch o
  | .ref _, o => nomatch o
theorem eqvs_same : ∀ (xs : List D), (∀ x ∈ xs, PO x) → PyData.eqvAll (shPs xs) (shPs xs) = true
  | [], _ => by rw [shPs]; rfl
  | x :: xs, o => by
    rw [shPs, PyData.eqvAll, eqv_same x (o x List.mem_cons_self), eqvs_same xs fun y hy => o y (List.mem_cons_of_mem _ hy)]
    rfl
end
theorem pors {h : DH} : ∀ {xs : List D}, (∀ x ∈ xs, PyR h x (shP x) ∧ (shP x).canLay0 = true) → PyRs h xs (shPs xs) ∧ PyData.canLayAll0 (shPs xs) = true
  | [], _ => ⟨.nil, rfl⟩
  | x :: xs, o => by
    have a := o x List.mem_cons_self
    have b := pors (xs := xs) fun y hy => o y (List.mem_cons_of_mem _ hy)
    have e : shPs (x :: xs) = shP x :: shPs xs := by rw [shPs]
    rw [e]
    exact ⟨.cons a.1 b.1, by rw [PyData.canLayAll0, a.2, b.2]; rfl⟩
theorem por {h : DH} {d : D} (o : PO d) : PyR h d (shP d) ∧ (shP d).canLay0 = true := by
  induction o with
  | non => exact ⟨.non, rfl⟩
  | bl b => rw [shP]; exact ⟨.bl, rfl⟩
  | int i hi => rw [shP]; exact ⟨.int, rfl⟩
  | str s hs => rw [shP]; exact ⟨.str, by rw [PyData.canLay0]; exact hs⟩
  | tup _ ih => rw [shP]; have := pors ih; exact ⟨.tup this.1, by rw [PyData.canLay0]; exact this.2⟩
  | cl _ ih => rw [shP]; have := pors ih; exact ⟨.cl this.1, by rw [PyData.canLay0]; exact this.2⟩
theorem po_shaped {d : D} (o : PO d) (l : dP d ≤ 60) : SeqAt.shaped (shP d) = true := by
  have a := po_one (h := fun _ => none) o
  unfold SeqAt.shaped
  rw [(por (h := fun _ => none) o).2, decide_eq_true (Nat.le_trans a.d (by omega))]
  rfl
theorem eq4_same {xs : List D} (o1 : PO (.tup xs)) (l1 : dP (.tup xs) ≤ 60) {h : DH} {E : EKt} {Q : Bool → DH → Prop} (q : Q true h) : (opEq4 (.tup xs) (.tup xs)).run h Q E := by
  cases xs with
  | nil => exact q
  | cons y ys => exact ⟨_, _, (por o1).1, (por o1).1, po_shaped o1 l1, po_shaped o1 l1, by rw [eqv_same _ o1]; exact q⟩
end DL
local macro_rules | `(tactic| simp? only [$xs:simpLemma,*]) => `(tactic| simp only [↓DL.ev_add, ↓DL.ev_sub, ↓DL.ev_mod, ↓DL.ev_fdiv, ↓DL.ev_pow, ↓DL.ev_neg, ↓DL.ev_addS, ↓DL.ev_addT, ↓DL.ev_lt_t, ↓DL.ev_lt_f, ↓DL.ev_gt_t, ↓DL.ev_gt_f, ↓DL.ev_ge_t, ↓DL.ev_ge_f, ↓DL.ev_eq_nn, ↓DL.ev_eq_ni, ↓DL.ev_eq_nb, ↓DL.ev_eq_ns, ↓DL.ev_eq_in, ↓DL.ev_eq_i_t, ↓DL.ev_eq_i_f, ↓DL.ev_eq_is, ↓DL.ev_eq_bn, ↓DL.ev_eq_b_t, ↓DL.ev_eq_b_f, ↓DL.ev_eq_bs, ↓DL.ev_eq_sn, ↓DL.ev_eq_si, ↓DL.ev_eq_sb, ↓DL.ev_eq_s_t, ↓DL.ev_eq_s_f, ↓DL.ev_ixT, ↓DL.ev_ixC, ↓DL.ev_ixR, ↓DL.ev_tupT, ↓DL.ev_tupR, ↓DL.ev_min2, ↓DL.ev_int, ↓DL.ev_truB, ↓DL.ev_truI, ↓DL.ev_truT, ↓DL.ev_truR, ↓DL.ev_part, ↓DL.ev_rng1, ↓DL.ev_rng2, ↓DL.ev_some, ↓DL.ev_lst, ↓DL.ev_dT, ↓DL.ev_lstd, ↓DL.ev_dlst, ↓DL.ev_two, ↓DL.ev_tf, ↓DL.ev_ff, ↓DL.ev_tf2, ↓DL.ev_ff2, DL.atI_nat, DL.atI_0, DL.atI_1, DL.atI_2, DL.atI_3, DL.atI_4, DL.atI_5, DL.atI_6, DL.atI_7, DL.ev_tf, DL.ev_ff, DL.ev_tf2, DL.ev_ff2, Bool.not_true, Bool.not_false, DL.str_inj, String.reduceEq, not_false_eq_true, not_true_eq_false, true_and, and_true, Int.reduceLT, Int.reduceLE, Int.reduceNeg, Int.reduceAdd, Int.reduceSub, Int.reduceMul, Int.reduceToNat, Int.toNat_natCast, List.getElem?_cons_zero, List.getElem?_cons_succ, ↓DL.fv_addI, ↓DL.fv_addS, ↓DL.fv_addT, ↓DL.fv_addC, ↓DL.fv_addI2, ↓DL.fv_mulI, ↓DL.fv_mulC, ↓DL.fv_mulT, ↓DL.fv_ixT, ↓DL.fv_ixC, ↓DL.fv_ixS, ↓DL.fv_ixD, ↓DL.fv_ixK, ↓DL.fv_ixKi, ↓DL.fv_ixR, ↓DL.fv_ixO1, ↓DL.fv_ixO2, DL.fv_inT, DL.fv_inC, DL.fv_inR, DL.fv_inK, DL.fv_inO1, DL.fv_inO2, ↓DL.fv_lenS, ↓DL.fv_lenT, ↓DL.fv_lenC, ↓DL.fv_lenK, ↓DL.fv_lenR, ↓DL.fv_lenO1, ↓DL.fv_lenO2, ↓DL.fv_lenO3, ↓DL.fv_stR, ↓DL.fv_stO1, ↓DL.fv_stO2, DL.fv_slT, DL.fv_slC, DL.fv_slS, ↓DL.fv_listT, ↓DL.fv_listC, ↓DL.fv_tupT, ↓DL.fv_tupC, ↓DL.fv_tupR, ↓DL.fv_sortK, ↓DL.fv_sortC, ↓DL.fv_sortR, ↓DL.fv_sortO1, DL.fv_seqT, DL.fv_seqC, DL.fv_seqS, DL.fv_seqK, ↓DL.fv_truB, ↓DL.fv_truI, ↓DL.fv_truN, ↓DL.fv_truC, ↓DL.fv_truT, DL.fv_intB, ↓DL.fv_zipTT, ↓DL.fv_zipST, ↓DL.fv_zipCC, ↓DL.fv_zipTC, ↓DL.fv_zipCT, ↓DL.fv_frzR, ↓DL.fv_frz1, ↓DL.fv_frz2, ↓DL.fv_getK1, ↓DL.fv_getK2, DL.fv_cut1, ↓DL.fv_forN, ↓DL.fv_forC, ↓DL.fv_up1, ↓DL.fv_up2, ↓DL.fv_up3, ↓DL.fv_up2c, ↓DL.fv_up3c, ↓DL.fv_app, DL.fv_isL, ↓DL.fv_isDK, ↓DL.fv_at, ↓DL.fv_forget, DL.fv_inN, DL.fv_inS, DL.fv_eqSS, DL.fv_eqII, DL.fv_eqNS, DL.fv_eqSN, DL.fv_flS, DL.fv_flI, DL.fv_flN, DL.fv_flB, DL.fv_fkN, DL.fv_fkC, DL.fv_cdC, DL.fv_cut2, DL.fv_cut3, DL.fv_cut4, DL.fv_tk1, DL.fv_rep0, DL.fv_rep1, DL.fv_sm0, DL.fv_sm1, DL.fv_sm2, DL.fv_sm3, DL.fv_sl0, DL.fv_se0, DL.fv_sl1, DL.fv_se1, DL.fv_sl2, DL.fv_se2, DL.fv_sl3, DL.fv_se3, DL.fv_sl4, DL.fv_se4, DL.fv_sl5, DL.fv_se5, DL.fv_sl6, DL.fv_se6, DL.fv_sl7, DL.fv_se7, DL.fv_sl8, DL.fv_se8, DL.fv_sl9, DL.fv_se9, DL.fv_sl10, DL.fv_se10, DL.fv_sl11, DL.fv_se11, DL.fv_sl12, DL.fv_se12, DL.fv_sl13, DL.fv_se13, DL.fv_sl14, DL.fv_se14, DL.fv_sl15, DL.fv_se15, DL.fv_sl16, DL.fv_se16, DL.fv_sl17, DL.fv_se17, DL.fv_sl18, DL.fv_se18, DL.fv_sl19, DL.fv_se19, DL.fv_sl20, DL.fv_se20, DL.fv_sl21, DL.fv_se21, DL.fv_sl22, DL.fv_se22, DL.fv_sl23, DL.fv_se23, DL.fv_sl24, DL.fv_se24, DL.fv_sl25, DL.fv_se25, DL.fv_sl26, DL.fv_se26, DL.fv_sl27, DL.fv_se27, DL.fv_sl28, DL.fv_se28, DL.fv_sl29, DL.fv_se29, DL.fv_sl30, DL.fv_se30, DL.isL, Bool.true_eq_false, false_implies, true_implies, implies_true, exists_const, List.nil_append, List.cons_append, List.length_append, List.length_cons, List.length_nil, Nat.reduceAdd, List.map_cons, List.map_nil, List.getD_cons_zero, List.getD_cons_succ, ↓reduceIte, Bool.false_eq_true, List.zip_cons_cons, List.zip_nil_left, List.zip_nil_right, DL.zipD, List.all_cons, List.all_nil, Bool.and_self, Bool.true_and, Bool.and_true, Bool.false_or, Bool.true_or, Bool.or_false, decide_true, decide_false, Sum.inr.injEq, Sum.inl.injEq, reduceCtorEq, if_true, if_false, and_self, Option.getD_some, Option.getD_none, Option.isSome_some, Option.isSome_none, Int.cast_ofNat_Int, Int.natCast_zero, Int.natCast_one, Nat.reduceMul, Int.toNat_zero, Int.toNat_one, ↓DL.fw_addI, ↓DL.fw_addS, ↓DL.fw_addT, ↓DL.fw_addC, ↓DL.fw_mulI, ↓DL.fw_mulC, ↓DL.fw_mulT, ↓DL.fw_getC1, ↓DL.fw_getC2, ↓DL.fw_getK1, ↓DL.fw_getK2, ↓DL.fw_repr, ↓DL.fw_all, ↓DL.fw_lt, ↓DL.fw_ge, ↓DL.fw_gt, ↓DL.fw_inS, ↓DL.fw_sortT, ↓DL.fw_sortC, ↓DL.fw_sortR, ↓DL.fw_sortK, ↓DL.fw_listT, ↓DL.fw_listC, ↓DL.fw_listK, DL.fw_isDK1, DL.fw_isDK2, DL.fw_eq4s, DL.fw_eq4i, DL.fw_eq4b, DL.fw_eq4n, DL.fw_eq4r, DL.fw_eq4t, DL.fx_eq5r, DL.fx_eq5c, DL.fx_isE, $xs,*])
namespace K40
open PySem L2 DL
def g_BOTH : D := .str "both"
def g_EITHER : D := .str "either"
def g_FIRST_ALONE : D := .str "first alone"
def g_NOWHERE : D := .int (-1)
def m1_lively_states (t3_state : D) : W (Option D) := item (W.pure true) (eLstF [])
def m2_lively_states (t6_ends : D) (t7_edges : D) : W (Option D) := item (W.pure true) (W.pure t6_ends)
def l2_lively_states (v4_sources : D) (t10_index : D) (t15_field : D) (t16_other : D) (q14 : Unit) : W (Fl (Unit) (Unit)) := (e2 opAddF3 (e2 opIx2 (W.pure v4_sources) (W.pure t16_other)) (eLstF [W.pure t10_index])).bind fun v => (W.pure v4_sources).bind fun x => (W.pure t16_other).bind fun y => (st2 x y v).bind fun _ => sNx ()
def l1_lively_states (v4_sources : D) (t10_index : D) (t11_ends : D) (t12_edges : D) (q9 : Unit) : W (Fl (Unit) (Unit)) := sThen (sFor ((W.pure t12_edges).bind iSeq2) (fun d c => uP (.tp [.nm, .nm]) d fun ds17 => l2_lively_states v4_sources t10_index (ds17.getD 0 .non) (ds17.getD 1 .non) c) ()) fun q18 => sNx ()
def m3_lively_states (t22_index : D) (t23_ends : D) : W (Option D) := item ((W.pure t23_ends).bind opTru) (W.pure t22_index)
def l4_lively_states (v8_found : D) (v24_waiting : D) (t28_index : D) (q27 : Unit) : W (Fl (Unit) (Unit)) := wIte (wNot ((e2 opIx2 (W.pure v8_found) (W.pure t28_index)).bind opTru)) ((W.pure (D.bl true)).bind fun v => (W.pure v8_found).bind fun x => (W.pure t28_index).bind fun y => (st2 x y v).bind fun _ => (eMeth isL mAppend (W.pure v24_waiting) [W.pure t28_index]).bind fun _ => sNx ()) (sNx ())
def l3_lively_states (v24_waiting : D) (v20_sources : D) (v8_found : D) (q25 : Unit) : W (Fl (Unit) (Unit)) := (eMeth isL mPop (W.pure v24_waiting) []).bind fun v26_last => sThen (sFor ((e2 opIx2 (W.pure v20_sources) (W.pure v26_last)).bind iSeq2) (fun d c => uP (.nm) d fun ds29 => l4_lively_states v8_found v24_waiting (ds29.getD 0 .non) c) ()) fun q30 => sNx ()
def cb_lively_states (v0_automaton : D) : W (Fl Unit Unit) := (eComp ((W.pure v0_automaton).bind iSeq2) (fun d => uP (.nm) d fun ds2 => m1_lively_states (ds2.getD 0 .non))).bind fun v4_sources => (eComp ((W.pure v0_automaton).bind iSeq2) (fun d => uP (.tp [.nm, .nm]) d fun ds5 => m2_lively_states (ds5.getD 0 .non) (ds5.getD 1 .non))).bind fun v8_found => sThen (sFor ((eArgs [W.pure v0_automaton]).bind iEnum3) (fun d c => uP (.tp [.nm, .tp [.nm, .nm]]) d fun ds13 => l1_lively_states v4_sources (ds13.getD 0 .non) (ds13.getD 1 .non) (ds13.getD 2 .non) c) ()) fun q19 => (frzQ v4_sources).bind fun v20_sources => (eComp ((eArgs [W.pure v8_found]).bind iEnum3) (fun d => uP (.tp [.nm, .nm]) d fun ds21 => m3_lively_states (ds21.getD 0 .non) (ds21.getD 1 .non))).bind fun v24_waiting => sThen (sWhile (fun q25 => c2 opNe5 (W.pure v24_waiting) (eLstF [])) (fun c => l3_lively_states v24_waiting v20_sources v8_found c) ()) fun q31 => (frzQ v8_found).bind fun v32_found => sRt (W.pure v32_found)
def c_lively_states (v0_automaton : D) : W D := W.forget (fn (cb_lively_states v0_automaton))
def m1_classes_of (t4_ends : D) (t5_edges : D) : W (Option D) := item (W.pure true) (eCall bInt [W.pure t4_ends])
def m2_classes_of (v1_is_lively : D) (q8 : D × D) (t18_field : D) (t19_other : D) : W (Option D) := item ((e2 opIx2 (W.pure v1_is_lively) (W.pure t19_other)).bind opTru) (eTup [W.pure t18_field, e2 opIx2 (W.pure q8.1) (W.pure t19_other)])
def l2_classes_of (v1_is_lively : D) (q8 : D × D) (v11_found : D) (v10_numbers : D) (t13_index : D) (t14_ends : D) (t15_edges : D) (q12 : Unit) : W (Fl (Unit) (Unit)) := (eCall bTuple2 [(eComp ((W.pure t15_edges).bind iSeq2) (fun d => uP (.tp [.nm, .nm]) d fun ds17 => m2_classes_of v1_is_lively q8 (ds17.getD 0 .non) (ds17.getD 1 .non))).bind frzQ]).bind fun v20_told => (eMeth isL mAppend (W.pure v11_found) [eMeth isDK5 mSetd (W.pure v10_numbers) [eTup [e2 opIx2 (W.pure q8.1) (W.pure t13_index), W.pure v20_told], eCall bLen2 [W.pure v10_numbers]]]).bind fun _ => sNx ()
def l1_classes_of (v0_automaton : D) (v1_is_lively : D) (q8 : D × D) : W (Fl (D × D) (D × D)) := ((W.pure q8.1).bind bLenSetI).bind fun v9_many => (W.alt (W.new (.dK [])) (W.new (.dT []))).bind fun v10_numbers => (eLst []).bind fun v11_found => sThen (sFor ((eArgs [W.pure v0_automaton]).bind iEnum3) (fun d c => uP (.tp [.nm, .tp [.nm, .nm]]) d fun ds16 => l2_classes_of v1_is_lively q8 v11_found v10_numbers (ds16.getD 0 .non) (ds16.getD 1 .non) (ds16.getD 2 .non) c) ()) fun q21 => (W.pure v11_found).bind fun v22_classes => sNx (v22_classes, v9_many)
def cb_classes_of (v0_automaton : D) (v1_is_lively : D) : W (Fl Unit Unit) := ((eComp ((W.pure v0_automaton).bind iSeq2) (fun d => uP (.tp [.nm, .nm]) d fun ds3 => m1_classes_of (ds3.getD 0 .non) (ds3.getD 1 .non))).bind frzQ).bind fun v6_classes => (W.pure (D.int 0)).bind fun v7_many => sThen (sWhile (fun q8 => c2 opNe4 (W.pure q8.2) ((W.pure q8.1).bind bLenSetI)) (fun c => l1_classes_of v0_automaton v1_is_lively c) (v6_classes, v7_many)) fun q23 => sRt (W.pure q23.1)
def c_classes_of (v0_automaton : D) (v1_is_lively : D) : W D := W.forget (fn (cb_classes_of v0_automaton v1_is_lively))
def cb_first_of (v0_automaton : D) : W (Fl Unit Unit) := sRt (wIte (c2 opEq4 (W.pure v0_automaton) (eTup [])) (W.pure g_NOWHERE) (W.pure (D.int 0)))
def c_first_of (v0_automaton : D) : W D := W.forget (fn (cb_first_of v0_automaton))
def cb_edges_at (v0_automaton : D) (v1_index : D) : W (Fl Unit Unit) := sRt (wIte (c2 opEq4 (W.pure v1_index) (W.pure g_NOWHERE)) (W.pure (.dk [] [])) (eCall bDictF4 [eCall bListF3 [e2 opIx2 (e2 opIx2 (W.pure v0_automaton) (W.pure v1_index)) (W.pure (D.int 1))]]))
def c_edges_at (v0_automaton : D) (v1_index : D) : W D := W.forget (fn (cb_edges_at v0_automaton v1_index))
def cb_ends_at (v0_automaton : D) (v1_index : D) : W (Fl Unit Unit) := sRt (vAndT (vB (c2 opNe4 (W.pure v1_index) (W.pure g_NOWHERE))) (e2 opIx2 (e2 opIx2 (W.pure v0_automaton) (W.pure v1_index)) (W.pure (D.int 0))))
def c_ends_at (v0_automaton : D) (v1_index : D) : W D := W.forget (fn (cb_ends_at v0_automaton v1_index))
def m1_rooted (t8_field : D) (t9_other : D) : W (Option D) := item (W.pure true) (eTup [W.pure t8_field, e2 opAddF3 (W.pure t9_other) (W.pure (D.int 1))])
def m2_rooted (t5_ends : D) (t6_edges : D) : W (Option D) := item (W.pure true) (eTup [W.pure t5_ends, eCall bTuple2 [(eComp ((W.pure t6_edges).bind iSeq2) (fun d => uP (.tp [.nm, .nm]) d fun ds7 => m1_rooted (ds7.getD 0 .non) (ds7.getD 1 .non))).bind frzQ]])
def cb_rooted (v0_automaton : D) (v1_index : D) : W (Fl Unit Unit) := sThen (wIte (c2 opEq4 (W.pure v1_index) (W.pure g_NOWHERE)) (sRt (eTup [])) (sNx ())) fun q3 => (eComp ((W.pure v0_automaton).bind iSeq2) (fun d => uP (.tp [.nm, .nm]) d fun ds4 => m2_rooted (ds4.getD 0 .non) (ds4.getD 1 .non))).bind fun v10_later => (frzQ v10_later).bind fun v11_later => sRt (eCall bTuple2 [e2 opAddF3 (eLstF [e2 opIx2 (W.pure v11_later) (W.pure v1_index)]) (W.pure v11_later)])
def c_rooted (v0_automaton : D) (v1_index : D) : W D := W.forget (fn (cb_rooted v0_automaton v1_index))
def cb_Demand_bool (v0_self : D) : W (Fl Unit Unit) := sRt (vB (c2 opGt (eCall bLen2 [(W.pure v0_self).bind (opFld ["Demand"] "automaton")]) (W.pure (D.int 0))))
def c_Demand_bool (v0_self : D) : W D := W.forget (fn (cb_Demand_bool v0_self))
def l1_law_deck (t5_cell : D) (q4 : D) : W (Fl (D) (D)) := (e2 opMod (e2 opAddF3 (e2 opAddF3 (e2 opMulF3 (W.pure q4) (W.pure (D.int 39373))) (e2 opMod (eCall bInt [W.pure t5_cell]) (W.pure (D.int 2147483629)))) (W.pure (D.int 47))) (W.pure (D.int 2147483587))).bind fun v7_mixing => sNx v7_mixing
def cb_law_deck (v0__law_script : D) : W (Fl Unit Unit) := (eCall bListF3 [(W.pure v0__law_script).bind fun d => (W.pure (none : Option Int)).bind fun l => ((W.pure (D.int 63)).bind opPart).bind fun u => opSlF d l u]).bind fun v2_cells => (W.pure (D.int 61253)).bind fun v3_mixing => sThen (sFor ((W.pure v2_cells).bind iSeq2) (fun d c => uP (.nm) d fun ds6 => l1_law_deck (ds6.getD 0 .non) c) v3_mixing) fun q8 => sRt (eDisp [(W.pure (D.str "cells"), (W.pure v2_cells).bind opRev), (W.pure (D.str "mixing"), W.pure q8), (W.pure (D.str "draws"), W.pure (.int 0))])
def c_law_deck (v0__law_script : D) : W D := W.forget (fn (cb_law_deck v0__law_script))
def cb_law_draw (v0__law_deck_here : D) (v1__law_many : D) : W (Fl Unit Unit) := (e2 opAddF3 (e2 opIx2 (W.pure v0__law_deck_here) (W.pure (D.str "draws"))) (W.pure (D.int 1))).bind fun v3_turn => (e2 opIx2 (W.pure v0__law_deck_here) (W.pure (D.str "mixing"))).bind fun v4_cell => (W.pure v3_turn).bind fun v => (W.pure v0__law_deck_here).bind fun x => (W.pure (D.str "draws")).bind fun y => (st2 x y v).bind fun _ => sThen (wIte (c2 opNe5 (e2 opIx2 (W.pure v0__law_deck_here) (W.pure (D.str "cells"))) (eLstF [])) ((eMeth isL mPop (e2 opIx2 (W.pure v0__law_deck_here) (W.pure (D.str "cells"))) []).bind fun v6_cell => sThen (wIte (c2 opGe (W.pure v6_cell) (e2 opPow (W.pure (D.int 10)) (W.pure (D.int 18)))) ((eMeth isL mAppend (e2 opIx2 (W.pure v0__law_deck_here) (W.pure (D.str "cells"))) [e2 opFdiv (W.pure v6_cell) (W.pure v1__law_many)]).bind fun _ => sRt (e2 opMod (eCall bInt [W.pure v6_cell]) (W.pure v1__law_many))) (sNx ())) fun q7 => (e2 opAddF3 (W.pure v6_cell) (e2 opIx2 (W.pure v0__law_deck_here) (W.pure (D.str "mixing")))).bind fun v8_cell => sNx v8_cell) (sNx v4_cell)) fun q5 => (e2 opMod (e2 opMulF3 (e2 opAddF3 (e2 opAddF3 (e2 opMod (eCall bInt [W.pure q5]) (W.pure (D.int 2147483629))) (e2 opMulF3 (e2 opMulF3 (W.pure (D.int 61253)) (W.pure v3_turn)) (W.pure v3_turn))) (W.pure (D.int 47))) (W.pure (D.int 40692))) (W.pure (D.int 2147483647))).bind fun v9_mixed => (e2 opMod (e2 opAddF3 (e2 opAddF3 (e2 opMulF3 (W.pure v9_mixed) (W.pure v9_mixed)) (e2 opMulF3 (W.pure (D.int 69779)) (W.pure v3_turn))) (W.pure (D.int 39373))) (W.pure (D.int 2147483587))).bind fun v10_mixed => sRt (e2 opMod (e2 opFdiv (e2 opMod (e2 opMulF3 (W.pure v10_mixed) (W.pure (D.int 39373))) (W.pure (D.int 2147483563))) (W.pure (D.int 64))) (W.pure v1__law_many))
def c_law_draw (v0__law_deck_here : D) (v1__law_many : D) : W D := W.forget (fn (cb_law_draw v0__law_deck_here v1__law_many))
def m1_law_alive (t3_ends : D) (t4_pairs : D) : W (Option D) := item (W.pure true) (W.pure t3_ends)
def m2_law_alive (v5_found : D) (t13_name : D) (t14_to_here : D) : W (Option D) := item ((e2 opIx2 (W.pure v5_found) (W.pure t14_to_here)).bind opTru) (W.pure (D.int 1))
def l2_law_alive (v5_found : D) (v0__law_states : D) (t10_k : D) (q9 : Unit) : W (Fl (Unit) (Unit)) := (vOrT (e2 opIx2 (W.pure v5_found) (W.pure t10_k)) (vB (c2 opNe5 ((eComp ((e2 opIx2 (e2 opIx2 (W.pure v0__law_states) (W.pure t10_k)) (W.pure (D.int 1))).bind iSeq2) (fun d => uP (.tp [.nm, .nm]) d fun ds12 => m2_law_alive v5_found (ds12.getD 0 .non) (ds12.getD 1 .non))).bind frzQ) (eLstF [])))).bind fun v => (W.pure v5_found).bind fun x => (W.pure t10_k).bind fun y => (st2 x y v).bind fun _ => sNx ()
def l1_law_alive (v0__law_states : D) (v5_found : D) (t7_turn : D) (q6 : Unit) : W (Fl (Unit) (Unit)) := sThen (sFor ((eArgs [eCall bLen2 [W.pure v0__law_states]]).bind iRange) (fun d c => uP (.nm) d fun ds11 => l2_law_alive v5_found v0__law_states (ds11.getD 0 .non) c) ()) fun q15 => sNx ()
def cb_law_alive (v0__law_states : D) : W (Fl Unit Unit) := (eComp ((W.pure v0__law_states).bind iSeq2) (fun d => uP (.tp [.nm, .nm]) d fun ds2 => m1_law_alive (ds2.getD 0 .non) (ds2.getD 1 .non))).bind fun v5_found => sThen (sFor ((eArgs [eCall bLen2 [W.pure v0__law_states]]).bind iRange) (fun d c => uP (.nm) d fun ds8 => l1_law_alive v0__law_states v5_found (ds8.getD 0 .non) c) ()) fun q16 => (frzQ v5_found).bind fun v17_found => sRt (W.pure v17_found)
def c_law_alive (v0__law_states : D) : W D := W.forget (fn (cb_law_alive v0__law_states))
def m1_law_to (v2__law_name : D) (t5_one : D) (t6_to_here : D) : W (Option D) := item (c2 opEq4 (W.pure t5_one) (W.pure v2__law_name)) (W.pure t6_to_here)
def cb_law_to (v0__law_states : D) (v1__law_at : D) (v2__law_name : D) : W (Fl Unit Unit) := (wIte (c2 opGe (W.pure v1__law_at) (W.pure (D.int 0))) ((eComp ((e2 opIx2 (e2 opIx2 (W.pure v0__law_states) (W.pure v1__law_at)) (W.pure (D.int 1))).bind iSeq2) (fun d => uP (.tp [.nm, .nm]) d fun ds4 => m1_law_to v2__law_name (ds4.getD 0 .non) (ds4.getD 1 .non))).bind frzQ) (eLstF [])).bind fun v7_found => sRt (e2 opIx2 (e2 opAddF3 (W.pure v7_found) (eLstF [e1 opNeg (W.pure (D.int 1))])) (W.pure (D.int 0)))
def c_law_to (v0__law_states : D) (v1__law_at : D) (v2__law_name : D) : W D := W.forget (fn (cb_law_to v0__law_states v1__law_at v2__law_name))
def l2_least (v2_is_lively : D) (v4_classes : D) (v5_numbers : D) (v6_order : D) (v12_pairs : D) (t14_field : D) (t15_other : D) (q13 : Unit) : W (Fl (Unit) (Unit)) := wIte ((e2 opIx2 (W.pure v2_is_lively) (W.pure t15_other)).bind opTru) (sThen (wIte (c2 opNin2 (e2 opIx2 (W.pure v4_classes) (W.pure t15_other)) (W.pure v5_numbers)) ((eCall bLen2 [W.pure v6_order]).bind fun v => (W.pure v5_numbers).bind fun x => (e2 opIx2 (W.pure v4_classes) (W.pure t15_other)).bind fun y => (st2 x y v).bind fun _ => (eMeth isL mAppend (W.pure v6_order) [W.pure t15_other]).bind fun _ => sNx ()) (sNx ())) fun q17 => (eMeth isL mAppend (W.pure v12_pairs) [eTup [W.pure t14_field, e2 opIx2 (W.pure v5_numbers) (e2 opIx2 (W.pure v4_classes) (W.pure t15_other))]]).bind fun _ => sNx ()) (sNx ())
def l1_least (v0_automaton : D) (v6_order : D) (v7_found : D) (v2_is_lively : D) (v4_classes : D) (v5_numbers : D) (q8 : Unit) : W (Fl (Unit) (Unit)) := (e2 opIx2 (W.pure v0_automaton) (e2 opIx2 (W.pure v6_order) (eCall bLen2 [W.pure v7_found]))).bind fun d => u2 (.tp [.nm, .nm]) d fun v10_ends v11_edges => (eLst []).bind fun v12_pairs => sThen (sFor ((W.pure v11_edges).bind iSeq2) (fun d c => uP (.tp [.nm, .nm]) d fun ds16 => l2_least v2_is_lively v4_classes v5_numbers v6_order v12_pairs (ds16.getD 0 .non) (ds16.getD 1 .non) c) ()) fun q18 => (eMeth isL mAppend (W.pure v7_found) [eTup [W.pure v10_ends, eCall bTuple2 [W.pure v12_pairs]]]).bind fun _ => sNx ()
def cb_least (v0_automaton : D) : W (Fl Unit Unit) := (eCall (ap1 c_lively_states) [W.pure v0_automaton]).bind fun v2_is_lively => sThen (wIte (wOr (c2 opEq4 (W.pure v0_automaton) (eTup [])) (wNot ((e2 opIx2 (W.pure v2_is_lively) (W.pure (D.int 0))).bind opTru))) (sRt (eTup [])) (sNx ())) fun q3 => (eCall (ap2 c_classes_of) [W.pure v0_automaton, W.pure v2_is_lively]).bind fun v4_classes => (eDisp [(e2 opIx2 (W.pure v4_classes) (W.pure (D.int 0)), W.pure (.int 0))]).bind fun v5_numbers => (eLst [W.pure (.int 0)]).bind fun v6_order => (eLst []).bind fun v7_found => sThen (sWhile (fun q8 => c2 opLt (eCall bLen2 [W.pure v7_found]) (eCall bLen2 [W.pure v6_order])) (fun c => l1_least v0_automaton v6_order v7_found v2_is_lively v4_classes v5_numbers c) ()) fun q19 => (frzQ v7_found).bind fun v20_found => sRt (eCall bTuple2 [W.pure v20_found])
def c_least (v0_automaton : D) : W D := W.forget (fn (cb_least v0_automaton))
def l1_state_behind (v0_automaton : D) (t5_field : D) (q4 : D) : W (Fl (D) (D)) := (eMeth isDK3 mGet3 (eCall (ap2 c_edges_at) [W.pure v0_automaton, W.pure q4]) [W.pure t5_field, W.pure g_NOWHERE]).bind fun v7_index => sNx v7_index
def cb_state_behind (v0_automaton : D) (v1_word : D) : W (Fl Unit Unit) := (eCall (ap1 c_first_of) [W.pure v0_automaton]).bind fun v3_index => sThen (sFor ((W.pure v1_word).bind iSeq2) (fun d c => uP (.nm) d fun ds6 => l1_state_behind v0_automaton (ds6.getD 0 .non) c) v3_index) fun q8 => sRt (W.pure q8)
def c_state_behind (v0_automaton : D) (v1_word : D) : W D := W.forget (fn (cb_state_behind v0_automaton v1_word))
def cb_Demand_fields (v0_self : D) : W (Fl Unit Unit) := sRt (eCall bTuple2 [eCall bSortF4 [eCall bListF3 [eCall (ap2 c_edges_at) [(W.pure v0_self).bind (opFld ["Demand"] "automaton"), eCall (ap1 c_first_of) [(W.pure v0_self).bind (opFld ["Demand"] "automaton")]]]]])
def c_Demand_fields (v0_self : D) : W D := W.forget (fn (cb_Demand_fields v0_self))
def cb_law_pick (v0__law_deck_here : D) (v1__law_some : D) : W (Fl Unit Unit) := sRt (e2 opIx2 (W.pure v1__law_some) (eCall (ap2 c_law_draw) [W.pure v0__law_deck_here, eCall bLen2 [W.pure v1__law_some]]))
def c_law_pick (v0__law_deck_here : D) (v1__law_some : D) : W D := W.forget (fn (cb_law_pick v0__law_deck_here v1__law_some))
def l2_law_automaton (v0__law_deck_here : D) (v9_pairs : D) (v4_many : D) (t11_name : D) (q10 : Unit) : W (Fl (Unit) (Unit)) := wIte (c2 opLt (eCall (ap2 c_law_draw) [W.pure v0__law_deck_here, W.pure (.int 3)]) (W.pure (D.int 2))) ((eMeth isL mAppend (W.pure v9_pairs) [eTup [W.pure t11_name, eCall (ap2 c_law_draw) [W.pure v0__law_deck_here, W.pure v4_many]]]).bind fun _ => sNx ()) (sNx ())
def l1_law_automaton (v1__law_names_here : D) (v0__law_deck_here : D) (v4_many : D) (v5_found : D) (t7_k : D) (q6 : Unit) : W (Fl (Unit) (Unit)) := (eLst []).bind fun v9_pairs => sThen (sFor ((eCall bSortF4 [W.pure v1__law_names_here]).bind iSeq2) (fun d c => uP (.nm) d fun ds12 => l2_law_automaton v0__law_deck_here v9_pairs v4_many (ds12.getD 0 .non) c) ()) fun q13 => (eMeth isL mAppend (W.pure v5_found) [eTup [vB (c2 opEq4 (eCall (ap2 c_law_draw) [W.pure v0__law_deck_here, W.pure (.int 3)]) (W.pure (D.int 0))), eCall bTuple2 [W.pure v9_pairs]]]).bind fun _ => sNx ()
def cb_law_automaton (v0__law_deck_here : D) (v1__law_names_here : D) (v2__law_top : D) : W (Fl Unit Unit) := (eCall (ap2 c_law_draw) [W.pure v0__law_deck_here, e2 opAddF3 (W.pure v2__law_top) (W.pure (D.int 1))]).bind fun v4_many => (eLst []).bind fun v5_found => sThen (sFor ((eArgs [W.pure v4_many]).bind iRange) (fun d c => uP (.nm) d fun ds8 => l1_law_automaton v1__law_names_here v0__law_deck_here v4_many v5_found (ds8.getD 0 .non) c) ()) fun q14 => (frzQ v5_found).bind fun v15_found => sRt (eCall bTuple2 [W.pure v15_found])
def c_law_automaton (v0__law_deck_here : D) (v1__law_names_here : D) (v2__law_top : D) : W D := W.forget (fn (cb_law_automaton v0__law_deck_here v1__law_names_here v2__law_top))
def cb_Demand_init (v0_self : D) (v1_automaton : D) : W (Fl Unit Unit) := (eCall (ap1 c_least) [W.pure v1_automaton]).bind fun v => (W.pure v0_self).bind fun x => (stFld ["Demand"] "automaton" x v).bind fun _ => sNx ()
def c_Demand_init (v0_self : D) (v1_automaton : D) : W D := W.forget (fn (cb_Demand_init v0_self v1_automaton))
def cb_Demand_contains (v0_self : D) (v1_word : D) : W (Fl Unit Unit) := sRt (eCall (ap2 c_ends_at) [(W.pure v0_self).bind (opFld ["Demand"] "automaton"), eCall (ap2 c_state_behind) [(W.pure v0_self).bind (opFld ["Demand"] "automaton"), W.pure v1_word]])
def c_Demand_contains (v0_self : D) (v1_word : D) : W D := W.forget (fn (cb_Demand_contains v0_self v1_word))
def m1_law_names (v8_words : D) (v5_first : D) (t10_k : D) : W (Option D) := item (W.pure true) (e2 opIx2 (W.pure v8_words) (e2 opMod (e2 opAddF3 (W.pure v5_first) (e2 opMulF3 (W.pure (D.int 3)) (W.pure t10_k))) (W.pure (D.int 10))))
def m2_law_names (v12_stem : D) (v13_at : D) (v4_letters : D) (v5_first : D) (t15_k : D) : W (Option D) := item (W.pure true) (e2 opAddF3 (e2 opAddF3 ((W.pure v12_stem).bind fun d => (W.pure (none : Option Int)).bind fun l => ((W.pure v13_at).bind opPart).bind fun u => opSlF d l u) (e2 opIx2 (W.pure v4_letters) (e2 opMod (e2 opAddF3 (W.pure v5_first) (e2 opMulF3 (W.pure (D.int 5)) (W.pure t15_k))) (W.pure (D.int 26))))) ((W.pure v12_stem).bind fun d => ((W.pure v13_at).bind opPart).bind fun l => (W.pure (none : Option Int)).bind fun u => opSlF d l u))
def cb_law_names (v0__law_deck_here : D) (v1__law_many : D) : W (Fl Unit Unit) := (eTup [W.pure (.str "abcdefghijklmnopqrstuvwxyz"), eCall (ap2 c_law_draw) [W.pure v0__law_deck_here, W.pure (.int 26)], eCall (ap2 c_law_draw) [W.pure v0__law_deck_here, W.pure (.int 3)]]).bind fun d => u3 (.tp [.nm, .nm, .nm]) d fun v4_letters v5_first v6_way => sThen (wIte (c2 opEq4 (W.pure v6_way) (W.pure (D.int 0))) ((eLstF [W.pure (.str "end"), W.pure (.str "next"), W.pure (.str "made"), W.pure (.str "none"), W.pure (.str "on"), W.pure (.str "t0"), W.pure (.str "head"), W.pure (.str "cell"), W.pure (.str "number"), W.pure (.str "jump")]).bind fun v8_words => sRt ((eComp ((eArgs [W.pure v1__law_many]).bind iRange) (fun d => uP (.nm) d fun ds9 => m1_law_names v8_words v5_first (ds9.getD 0 .non))).bind frzQ)) (sNx ())) fun q7 => (eTup [e2 opMulS (eCall (ap2 c_law_pick) [W.pure v0__law_deck_here, eLstF [W.pure (.str ""), W.pure (.str "lists"), W.pure (.str "no1no1n")]]) (eCall bInt [vB (c2 opEq4 (W.pure v6_way) (W.pure (D.int 1)))]), eCall (ap2 c_law_draw) [W.pure v0__law_deck_here, W.pure (.int 8)]]).bind fun d => u2 (.tp [.nm, .nm]) d fun v12_stem v13_at => sRt ((eComp ((eArgs [W.pure v1__law_many]).bind iRange) (fun d => uP (.nm) d fun ds14 => m2_law_names v12_stem v13_at v4_letters v5_first (ds14.getD 0 .non))).bind frzQ)
def c_law_names (v0__law_deck_here : D) (v1__law_many : D) : W D := W.forget (fn (cb_law_names v0__law_deck_here v1__law_many))
def m1_law_fields_right (v5_alive_here : D) (t9_name : D) (t10_to_here : D) : W (Option D) := item ((e2 opIx2 (W.pure v5_alive_here) (W.pure t10_to_here)).bind opTru) (W.pure t9_name)
def cb_law_fields_right (v0__law_one : D) (v1__law_states : D) (v2__law_start : D) : W (Fl Unit Unit) := (eTup [eCall (ap1 c_law_alive) [W.pure v1__law_states], eLstF []]).bind fun d => u2 (.tp [.nm, .nm]) d fun v5_alive_here v6_due => sThen (wIte (c2 opGe (W.pure v2__law_start) (W.pure (D.int 0))) ((eComp ((e2 opIx2 (e2 opIx2 (W.pure v1__law_states) (W.pure v2__law_start)) (W.pure (D.int 1))).bind iSeq2) (fun d => uP (.tp [.nm, .nm]) d fun ds8 => m1_law_fields_right v5_alive_here (ds8.getD 0 .non) (ds8.getD 1 .non))).bind fun v11_due => (frzQ v11_due).bind fun v12_due => sNx v12_due) (sNx v6_due)) fun q7 => sRt (vB (c2 opEq4 (eCall bRepr3 [eProp "Demand" (ap1 c_Demand_fields) (W.pure v0__law_one)]) (eCall bRepr3 [eCall bTuple2 [W.pure q7]])))
def c_law_fields_right (v0__law_one : D) (v1__law_states : D) (v2__law_start : D) : W D := W.forget (fn (cb_law_fields_right v0__law_one v1__law_states v2__law_start))
def cb_Demand_of (v0_automaton : D) : W (Fl Unit Unit) := sRt (eMake "Demand" (ap2 c_Demand_init) [W.pure v0_automaton])
def c_Demand_of (v0_automaton : D) : W D := W.forget (fn (cb_Demand_of v0_automaton))
def cb_Demand_eq (v0_self : D) (v1_other : D) : W (Fl Unit Unit) := sRt (vAndT ((W.pure v1_other).bind (bIsiOwn "Demand")) (vB (c2 opEq4 ((W.pure v0_self).bind (opFld ["Demand"] "automaton")) ((W.pure v1_other).bind (opFld ["Demand"] "automaton")))))
def c_Demand_eq (v0_self : D) (v1_other : D) : W D := W.forget (fn (cb_Demand_eq v0_self v1_other))
def cb_Demand_behind (v0_self : D) (v1_field : D) : W (Fl Unit Unit) := sRt (eMake "Demand" (ap2 c_Demand_init) [eCall (ap2 c_rooted) [(W.pure v0_self).bind (opFld ["Demand"] "automaton"), eCall (ap2 c_state_behind) [(W.pure v0_self).bind (opFld ["Demand"] "automaton"), eTup [W.pure v1_field]]]])
def c_Demand_behind (v0_self : D) (v1_field : D) : W D := W.forget (fn (cb_Demand_behind v0_self v1_field))
def m1_law_is_same (v4_alive_here : D) (t14_name : D) (t15_to_here : D) : W (Option D) := item ((e2 opIx2 (W.pure v4_alive_here) (W.pure t15_to_here)).bind opTru) (eTup [W.pure t14_name, W.pure t15_to_here])
def m2_law_is_same (t19_one : D) : W (Option D) := item (W.pure true) (e2 opIx2 (W.pure t19_one) (W.pure (D.int 0)))
def m3_law_is_same (t21_one : D) : W (Option D) := item (W.pure true) (e2 opIx2 (W.pure t21_one) (W.pure (D.int 0)))
def l2_law_is_same (v7_seen : D) (v8_waiting : D) (t24_one : D) (t25_twin : D) (q23 : Unit) : W (Fl (Unit) (Unit)) := wIte (c2 opNin2 (eTup [e2 opIx2 (W.pure t24_one) (W.pure (D.int 1)), e2 opIx2 (W.pure t25_twin) (W.pure (D.int 1))]) (W.pure v7_seen)) ((W.pure (D.bl true)).bind fun v => (W.pure v7_seen).bind fun x => (eTup [e2 opIx2 (W.pure t24_one) (W.pure (D.int 1)), e2 opIx2 (W.pure t25_twin) (W.pure (D.int 1))]).bind fun y => (st2 x y v).bind fun _ => (eMeth isL mAppend (W.pure v8_waiting) [eTup [e2 opIx2 (W.pure t24_one) (W.pure (D.int 1)), e2 opIx2 (W.pure t25_twin) (W.pure (D.int 1))]]).bind fun _ => sNx ()) (sNx ())
def l1_law_is_same (v8_waiting : D) (v1__law_states : D) (v4_alive_here : D) (v0__law_told : D) (v7_seen : D) (q9 : Unit) : W (Fl (Unit) (Unit)) := (eMeth isL mPop (W.pure v8_waiting) []).bind fun d => u2 (.tp [.nm, .nm]) d fun v11_mine v12_theirs => (eComp ((e2 opIx2 (e2 opIx2 (W.pure v1__law_states) (W.pure v12_theirs)) (W.pure (D.int 1))).bind iSeq2) (fun d => uP (.tp [.nm, .nm]) d fun ds13 => m1_law_is_same v4_alive_here (ds13.getD 0 .non) (ds13.getD 1 .non))).bind fun v16_pairs => (frzQ v16_pairs).bind fun v17_pairs => sThen (wIte (wOr (c2 opNe4 (e2 opIx2 (e2 opIx2 (W.pure v0__law_told) (W.pure v11_mine)) (W.pure (D.int 0))) (e2 opIx2 (e2 opIx2 (W.pure v1__law_states) (W.pure v12_theirs)) (W.pure (D.int 0)))) (c2 opNe4 ((eComp ((e2 opIx2 (e2 opIx2 (W.pure v0__law_told) (W.pure v11_mine)) (W.pure (D.int 1))).bind iSeq2) (fun d => uP (.nm) d fun ds18 => m2_law_is_same (ds18.getD 0 .non))).bind frzQ) ((eComp ((W.pure v17_pairs).bind iSeq2) (fun d => uP (.nm) d fun ds20 => m3_law_is_same (ds20.getD 0 .non))).bind frzQ))) (sRt (W.pure (D.bl false))) (sNx ())) fun q22 => sThen (sFor ((eArgs [e2 opIx2 (e2 opIx2 (W.pure v0__law_told) (W.pure v11_mine)) (W.pure (D.int 1)), W.pure v17_pairs]).bind iZip) (fun d c => uP (.tp [.nm, .nm]) d fun ds26 => l2_law_is_same v7_seen v8_waiting (ds26.getD 0 .non) (ds26.getD 1 .non) c) ()) fun q27 => sNx ()
def cb_law_is_same (v0__law_told : D) (v1__law_states : D) (v2__law_start : D) : W (Fl Unit Unit) := (eCall (ap1 c_law_alive) [W.pure v1__law_states]).bind fun v4_alive_here => sThen (wIte (wOr (c2 opLt (W.pure v2__law_start) (W.pure (D.int 0))) (wOr (wNot ((e2 opIx2 (W.pure v4_alive_here) (W.pure v2__law_start)).bind opTru)) (c2 opEq4 (W.pure v0__law_told) (eTup [])))) (sRt (vAndT (vB (c2 opEq4 (W.pure v0__law_told) (eTup []))) (vOrT (vB (c2 opLt (W.pure v2__law_start) (W.pure (D.int 0)))) (vNotT (e2 opIx2 (W.pure v4_alive_here) (W.pure v2__law_start)))))) (sNx ())) fun q5 => sThen (wIte (c2 opNe4 (eCall bRepr3 [(eCall (ap1 c_Demand_of) [W.pure v0__law_told]).bind (opFld ["Demand"] "automaton")]) (eCall bRepr3 [W.pure v0__law_told])) (sRt (W.pure (D.bl false))) (sNx ())) fun q6 => (eDispT (eTup [W.pure (.int 0), W.pure v2__law_start]) (W.pure (D.bl true))).bind fun v7_seen => (eLst [eTup [W.pure (.int 0), W.pure v2__law_start]]).bind fun v8_waiting => sThen (sWhile (fun q9 => c2 opNe5 (W.pure v8_waiting) (eLstF [])) (fun c => l1_law_is_same v8_waiting v1__law_states v4_alive_here v0__law_told v7_seen c) ()) fun q28 => sRt (W.pure (D.bl true))
def c_law_is_same (v0__law_told : D) (v1__law_states : D) (v2__law_start : D) : W D := W.forget (fn (cb_law_is_same v0__law_told v1__law_states v2__law_start))
def l1_law_row_right (v0__law_deck_here : D) (v3__law_names_here : D) (v2__law_states : D) (v1__law_one : D) (t9_turn : D) (q8 : D × D × D) : W (Fl (D × D × D) (D × D × D)) := (eCall (ap2 c_law_pick) [W.pure v0__law_deck_here, W.pure v3__law_names_here]).bind fun v11_name => sThen (wIte (wAnd (c2 opGe (W.pure q8.1) (W.pure (D.int 0))) (wAnd (c2 opNe4 (e2 opIx2 (e2 opIx2 (W.pure v2__law_states) (W.pure q8.1)) (W.pure (D.int 1))) (eTup [])) (c2 opGt (eCall (ap2 c_law_draw) [W.pure v0__law_deck_here, W.pure (.int 3)]) (W.pure (D.int 0))))) ((e2 opIx2 (eCall (ap2 c_law_pick) [W.pure v0__law_deck_here, e2 opIx2 (e2 opIx2 (W.pure v2__law_states) (W.pure q8.1)) (W.pure (D.int 1))]) (W.pure (D.int 0))).bind fun v13_name => sNx v13_name) (sNx v11_name)) fun q12 => (eMethC "Demand" "behind" (ap2 c_Demand_behind) (W.pure q8.2.1) [W.pure q12]).bind fun v14_found => (eCall (ap3 c_law_to) [W.pure v2__law_states, W.pure q8.1, W.pure q12]).bind fun v15_at => (e2 opAddF3 (W.pure q8.2.2) (eTup [W.pure q12])).bind fun v16_word => sThen (wIte (wOr (wNot (((W.pure v14_found).bind (bIsiOwn "Demand")).bind opTru)) (wNot ((eCall (ap3 c_law_is_same) [(W.pure v14_found).bind (opFld ["Demand"] "automaton"), W.pure v2__law_states, W.pure v15_at]).bind opTru))) (sRt (W.pure (D.bl false))) (sNx ())) fun q17 => wIte (wOr (wNot ((eCall (ap3 c_law_fields_right) [W.pure v14_found, W.pure v2__law_states, W.pure v15_at]).bind opTru)) (c2 opNe4 (vB (c2 (opInOwn "Demand" (ap2 c_Demand_contains)) (W.pure v16_word) (W.pure v1__law_one))) (vB (c2 (opInOwn "Demand" (ap2 c_Demand_contains)) (eTup []) (W.pure v14_found))))) (sRt (W.pure (D.bl false))) (sNx (v15_at, v14_found, v16_word))
def cb_law_row_right (v0__law_deck_here : D) (v1__law_one : D) (v2__law_states : D) (v3__law_names_here : D) : W (Fl Unit Unit) := (W.pure v1__law_one).bind fun v5_found => (eCall bMin2 [W.pure (.int 0), e2 opSub (eCall bLen2 [W.pure v2__law_states]) (W.pure (D.int 1))]).bind fun v6_at => (eTup []).bind fun v7_word => sThen (sFor ((eArgs [eCall (ap2 c_law_draw) [W.pure v0__law_deck_here, W.pure (.int 7)]]).bind iRange) (fun d c => uP (.nm) d fun ds10 => l1_law_row_right v0__law_deck_here v3__law_names_here v2__law_states v1__law_one (ds10.getD 0 .non) c) (v6_at, v5_found, v7_word)) fun q18 => sRt (W.pure (D.bl true))
def c_law_row_right (v0__law_deck_here : D) (v1__law_one : D) (v2__law_states : D) (v3__law_names_here : D) : W D := W.forget (fn (cb_law_row_right v0__law_deck_here v1__law_one v2__law_states v3__law_names_here))
def l2_law (v8_one : D) (v7_states : D) (v9_start : D) (t13_name : D) (q12 : Unit) : W (Fl (Unit) (Unit)) := (eMethC "Demand" "behind" (ap2 c_Demand_behind) (W.pure v8_one) [W.pure t13_name]).bind fun v15_found => sThen (wIte (wNot ((eCall (ap3 c_law_is_same) [(W.pure v15_found).bind (opFld ["Demand"] "automaton"), W.pure v7_states, eCall (ap3 c_law_to) [W.pure v7_states, W.pure v9_start, W.pure t13_name]]).bind opTru)) (sRt (W.pure (D.bl false))) (sNx ())) fun q16 => wIte (wOr (wNot (c2 (opEqOwn "Demand" (ap2 c_Demand_eq)) (eMethC "Demand" "behind" (ap2 c_Demand_behind) (W.pure v8_one) [W.pure t13_name]) (W.pure v15_found))) (c2 opNe4 (eCall (bBoolOwn "Demand" (ap1 c_Demand_bool)) [W.pure v15_found]) (vB (c2 opIn2 (W.pure t13_name) (eProp "Demand" (ap1 c_Demand_fields) (W.pure v8_one)))))) (sRt (W.pure (D.bl false))) (sNx ())
def l3_law (v2_deck_here : D) (v8_one : D) (v7_states : D) (v6_names_here : D) (t19_k : D) (q18 : Unit) : W (Fl (Unit) (Unit)) := wIte (wNot ((eCall (ap4 c_law_row_right) [W.pure v2_deck_here, W.pure v8_one, W.pure v7_states, W.pure v6_names_here]).bind opTru)) (sRt (W.pure (D.bl false))) (sNx ())
def l1_law (v2_deck_here : D) (t4_turn : D) (q3 : Unit) : W (Fl (Unit) (Unit)) := (eCall (ap2 c_law_names) [W.pure v2_deck_here, e2 opAddF3 (W.pure (D.int 2)) (eCall (ap2 c_law_draw) [W.pure v2_deck_here, W.pure (.int 4)])]).bind fun v6_names_here => (eCall (ap3 c_law_automaton) [W.pure v2_deck_here, (W.pure v6_names_here).bind fun d => (W.pure (none : Option Int)).bind fun l => ((e1 opNeg (W.pure (D.int 1))).bind opPart).bind fun u => opSlF d l u, W.pure (.int 7)]).bind fun v7_states => (eCall (ap1 c_Demand_of) [W.pure v7_states]).bind fun v8_one => (eCall bMin2 [W.pure (.int 0), e2 opSub (eCall bLen2 [W.pure v7_states]) (W.pure (D.int 1))]).bind fun v9_start => (eCall bRepr3 [(W.pure v8_one).bind (opFld ["Demand"] "automaton")]).bind fun v10_kept => sThen (wIte (wNot ((eCall (ap3 c_law_fields_right) [W.pure v8_one, W.pure v7_states, W.pure v9_start]).bind opTru)) (sRt (W.pure (D.bl false))) (sNx ())) fun q11 => sThen (sFor ((W.pure v6_names_here).bind iSeq2) (fun d c => uP (.nm) d fun ds14 => l2_law v8_one v7_states v9_start (ds14.getD 0 .non) c) ()) fun q17 => sThen (sFor ((eArgs [W.pure (.int 4)]).bind iRange) (fun d c => uP (.nm) d fun ds20 => l3_law v2_deck_here v8_one v7_states v6_names_here (ds20.getD 0 .non) c) ()) fun q21 => wIte (c2 opNe4 (eCall bRepr3 [(W.pure v8_one).bind (opFld ["Demand"] "automaton")]) (W.pure v10_kept)) (sRt (W.pure (D.bl false))) (sNx ())
def cb_law (v0__law_script : D) : W (Fl Unit Unit) := (eCall (ap1 c_law_deck) [W.pure v0__law_script]).bind fun v2_deck_here => sThen (sFor ((eArgs [W.pure (.int 3)]).bind iRange) (fun d c => uP (.nm) d fun ds5 => l1_law v2_deck_here (ds5.getD 0 .non) c) ()) fun q22 => sRt (W.pure (D.bl true))
def c_law (v0__law_script : D) : W D := W.forget (fn (cb_law v0__law_script))
end K40
set_option maxHeartbeats 0
namespace K40
open PySem L2 DL
open PyProof.Rows (envOfC)
def top (i : Nat) : Stmt := PySem.Challenge.pw_wayson_k40_behind_a_field.main.body.getD i (.Pass ⟨0, 0, 0, 0⟩)
def meth (j i : Nat) : Stmt := match top j with
  | .ClassDef _ _ _ b _ _ _ _ _ _ _ => b.getD i (.Pass ⟨0, 0, 0, 0⟩)
  | _ => .Pass ⟨0, 0, 0, 0⟩
theorem sc_lively_states : FnScope (["automaton", "sources", "found", "index", "ends", "edges", "field", "other", "waiting", "last", "state"] : List Str) ["automaton"] (defScope (top 6)) := ⟨rfl, rfl, rfl, by decide +kernel, rfl, by decide +kernel, by decide +kernel⟩
theorem nl_lively_states_automaton : (defScope (top 6)).names.lookup ("automaton" : Str) = some .local := by decide +kernel
theorem nl_lively_states_sources : (defScope (top 6)).names.lookup ("sources" : Str) = some .local := by decide +kernel
theorem nl_lively_states_found : (defScope (top 6)).names.lookup ("found" : Str) = some .local := by decide +kernel
theorem nl_lively_states_index : (defScope (top 6)).names.lookup ("index" : Str) = some .local := by decide +kernel
theorem nl_lively_states_ends : (defScope (top 6)).names.lookup ("ends" : Str) = some .local := by decide +kernel
theorem nl_lively_states_edges : (defScope (top 6)).names.lookup ("edges" : Str) = some .local := by decide +kernel
theorem nl_lively_states_field : (defScope (top 6)).names.lookup ("field" : Str) = some .local := by decide +kernel
theorem nl_lively_states_other : (defScope (top 6)).names.lookup ("other" : Str) = some .local := by decide +kernel
theorem nl_lively_states_waiting : (defScope (top 6)).names.lookup ("waiting" : Str) = some .local := by decide +kernel
theorem nl_lively_states_last : (defScope (top 6)).names.lookup ("last" : Str) = some .local := by decide +kernel
theorem nl_lively_states_enumerate : (defScope (top 6)).names.lookup ("enumerate" : Str) = some .globalImplicit := by decide +kernel
theorem sc_classes_of : FnScope (["automaton", "is_lively", "classes", "many", "numbers", "found", "index", "ends", "edges", "told", "field", "other"] : List Str) ["automaton", "is_lively"] (defScope (top 7)) := ⟨rfl, rfl, rfl, by decide +kernel, rfl, by decide +kernel, by decide +kernel⟩
theorem nl_classes_of_automaton : (defScope (top 7)).names.lookup ("automaton" : Str) = some .local := by decide +kernel
theorem nl_classes_of_is_lively : (defScope (top 7)).names.lookup ("is_lively" : Str) = some .cell := by decide +kernel
theorem nl_classes_of_classes : (defScope (top 7)).names.lookup ("classes" : Str) = some .cell := by decide +kernel
theorem nl_classes_of_many : (defScope (top 7)).names.lookup ("many" : Str) = some .local := by decide +kernel
theorem nl_classes_of_numbers : (defScope (top 7)).names.lookup ("numbers" : Str) = some .local := by decide +kernel
theorem nl_classes_of_found : (defScope (top 7)).names.lookup ("found" : Str) = some .local := by decide +kernel
theorem nl_classes_of_index : (defScope (top 7)).names.lookup ("index" : Str) = some .local := by decide +kernel
theorem nl_classes_of_ends : (defScope (top 7)).names.lookup ("ends" : Str) = some .local := by decide +kernel
theorem nl_classes_of_edges : (defScope (top 7)).names.lookup ("edges" : Str) = some .local := by decide +kernel
theorem nl_classes_of_told : (defScope (top 7)).names.lookup ("told" : Str) = some .local := by decide +kernel
theorem nl_classes_of_enumerate : (defScope (top 7)).names.lookup ("enumerate" : Str) = some .globalImplicit := by decide +kernel
theorem nl_classes_of_len : (defScope (top 7)).names.lookup ("len" : Str) = some .globalImplicit := by decide +kernel
theorem nl_classes_of_set : (defScope (top 7)).names.lookup ("set" : Str) = some .globalImplicit := by decide +kernel
theorem nl_classes_of_tuple : (defScope (top 7)).names.lookup ("tuple" : Str) = some .globalImplicit := by decide +kernel
theorem sc_least : FnScope (["automaton", "is_lively", "classes", "numbers", "order", "found", "ends", "edges", "pairs", "field", "other"] : List Str) ["automaton"] (defScope (top 8)) := ⟨rfl, rfl, rfl, by decide +kernel, rfl, by decide +kernel, by decide +kernel⟩
theorem nl_least_automaton : (defScope (top 8)).names.lookup ("automaton" : Str) = some .local := by decide +kernel
theorem nl_least_is_lively : (defScope (top 8)).names.lookup ("is_lively" : Str) = some .local := by decide +kernel
theorem nl_least_classes : (defScope (top 8)).names.lookup ("classes" : Str) = some .local := by decide +kernel
theorem nl_least_numbers : (defScope (top 8)).names.lookup ("numbers" : Str) = some .local := by decide +kernel
theorem nl_least_order : (defScope (top 8)).names.lookup ("order" : Str) = some .local := by decide +kernel
theorem nl_least_found : (defScope (top 8)).names.lookup ("found" : Str) = some .local := by decide +kernel
theorem nl_least_ends : (defScope (top 8)).names.lookup ("ends" : Str) = some .local := by decide +kernel
theorem nl_least_edges : (defScope (top 8)).names.lookup ("edges" : Str) = some .local := by decide +kernel
theorem nl_least_pairs : (defScope (top 8)).names.lookup ("pairs" : Str) = some .local := by decide +kernel
theorem nl_least_field : (defScope (top 8)).names.lookup ("field" : Str) = some .local := by decide +kernel
theorem nl_least_other : (defScope (top 8)).names.lookup ("other" : Str) = some .local := by decide +kernel
theorem nl_least_classes_of : (defScope (top 8)).names.lookup ("classes_of" : Str) = some .globalImplicit := by decide +kernel
theorem nl_least_len : (defScope (top 8)).names.lookup ("len" : Str) = some .globalImplicit := by decide +kernel
theorem nl_least_lively_states : (defScope (top 8)).names.lookup ("lively_states" : Str) = some .globalImplicit := by decide +kernel
theorem nl_least_tuple : (defScope (top 8)).names.lookup ("tuple" : Str) = some .globalImplicit := by decide +kernel
theorem sc_first_of : FnScope (["automaton"] : List Str) ["automaton"] (defScope (top 9)) := ⟨rfl, rfl, rfl, by decide +kernel, rfl, by decide +kernel, by decide +kernel⟩
theorem nl_first_of_automaton : (defScope (top 9)).names.lookup ("automaton" : Str) = some .local := by decide +kernel
theorem nl_first_of_NOWHERE : (defScope (top 9)).names.lookup ("NOWHERE" : Str) = some .globalImplicit := by decide +kernel
theorem sc_edges_at : FnScope (["automaton", "index"] : List Str) ["automaton", "index"] (defScope (top 10)) := ⟨rfl, rfl, rfl, by decide +kernel, rfl, by decide +kernel, by decide +kernel⟩
theorem nl_edges_at_automaton : (defScope (top 10)).names.lookup ("automaton" : Str) = some .local := by decide +kernel
theorem nl_edges_at_index : (defScope (top 10)).names.lookup ("index" : Str) = some .local := by decide +kernel
theorem nl_edges_at_NOWHERE : (defScope (top 10)).names.lookup ("NOWHERE" : Str) = some .globalImplicit := by decide +kernel
theorem nl_edges_at_dict : (defScope (top 10)).names.lookup ("dict" : Str) = some .globalImplicit := by decide +kernel
theorem nl_edges_at_list : (defScope (top 10)).names.lookup ("list" : Str) = some .globalImplicit := by decide +kernel
theorem sc_ends_at : FnScope (["automaton", "index"] : List Str) ["automaton", "index"] (defScope (top 11)) := ⟨rfl, rfl, rfl, by decide +kernel, rfl, by decide +kernel, by decide +kernel⟩
theorem nl_ends_at_automaton : (defScope (top 11)).names.lookup ("automaton" : Str) = some .local := by decide +kernel
theorem nl_ends_at_index : (defScope (top 11)).names.lookup ("index" : Str) = some .local := by decide +kernel
theorem nl_ends_at_NOWHERE : (defScope (top 11)).names.lookup ("NOWHERE" : Str) = some .globalImplicit := by decide +kernel
theorem sc_state_behind : FnScope (["automaton", "word", "index", "field"] : List Str) ["automaton", "word"] (defScope (top 12)) := ⟨rfl, rfl, rfl, by decide +kernel, rfl, by decide +kernel, by decide +kernel⟩
theorem nl_state_behind_automaton : (defScope (top 12)).names.lookup ("automaton" : Str) = some .local := by decide +kernel
theorem nl_state_behind_word : (defScope (top 12)).names.lookup ("word" : Str) = some .local := by decide +kernel
theorem nl_state_behind_index : (defScope (top 12)).names.lookup ("index" : Str) = some .local := by decide +kernel
theorem nl_state_behind_field : (defScope (top 12)).names.lookup ("field" : Str) = some .local := by decide +kernel
theorem nl_state_behind_NOWHERE : (defScope (top 12)).names.lookup ("NOWHERE" : Str) = some .globalImplicit := by decide +kernel
theorem nl_state_behind_edges_at : (defScope (top 12)).names.lookup ("edges_at" : Str) = some .globalImplicit := by decide +kernel
theorem nl_state_behind_first_of : (defScope (top 12)).names.lookup ("first_of" : Str) = some .globalImplicit := by decide +kernel
theorem sc_rooted : FnScope (["automaton", "index", "later", "ends", "edges", "field", "other"] : List Str) ["automaton", "index"] (defScope (top 13)) := ⟨rfl, rfl, rfl, by decide +kernel, rfl, by decide +kernel, by decide +kernel⟩
theorem nl_rooted_automaton : (defScope (top 13)).names.lookup ("automaton" : Str) = some .local := by decide +kernel
theorem nl_rooted_index : (defScope (top 13)).names.lookup ("index" : Str) = some .local := by decide +kernel
theorem nl_rooted_later : (defScope (top 13)).names.lookup ("later" : Str) = some .local := by decide +kernel
theorem nl_rooted_NOWHERE : (defScope (top 13)).names.lookup ("NOWHERE" : Str) = some .globalImplicit := by decide +kernel
theorem nl_rooted_tuple : (defScope (top 13)).names.lookup ("tuple" : Str) = some .globalImplicit := by decide +kernel
theorem sc_Demand_init : FnScope (["self", "automaton"] : List Str) ["self", "automaton"] (defScope (meth 17 0)) := ⟨rfl, rfl, rfl, by decide +kernel, rfl, by decide +kernel, by decide +kernel⟩
theorem nl_Demand_init_self : (defScope (meth 17 0)).names.lookup ("self" : Str) = some .local := by decide +kernel
theorem nl_Demand_init_automaton : (defScope (meth 17 0)).names.lookup ("automaton" : Str) = some .local := by decide +kernel
theorem nl_Demand_init_least : (defScope (meth 17 0)).names.lookup ("least" : Str) = some .globalImplicit := by decide +kernel
theorem sc_Demand_of : FnScope (["automaton"] : List Str) ["automaton"] (defScope (meth 17 1)) := ⟨rfl, rfl, rfl, by decide +kernel, rfl, by decide +kernel, by decide +kernel⟩
theorem nl_Demand_of_automaton : (defScope (meth 17 1)).names.lookup ("automaton" : Str) = some .local := by decide +kernel
theorem nl_Demand_of_Demand : (defScope (meth 17 1)).names.lookup ("Demand" : Str) = some .globalImplicit := by decide +kernel
theorem sc_Demand_eq : FnScope (["self", "other"] : List Str) ["self", "other"] (defScope (meth 17 2)) := ⟨rfl, rfl, rfl, by decide +kernel, rfl, by decide +kernel, by decide +kernel⟩
theorem nl_Demand_eq_self : (defScope (meth 17 2)).names.lookup ("self" : Str) = some .local := by decide +kernel
theorem nl_Demand_eq_other : (defScope (meth 17 2)).names.lookup ("other" : Str) = some .local := by decide +kernel
theorem nl_Demand_eq_Demand : (defScope (meth 17 2)).names.lookup ("Demand" : Str) = some .globalImplicit := by decide +kernel
theorem nl_Demand_eq_isinstance : (defScope (meth 17 2)).names.lookup ("isinstance" : Str) = some .globalImplicit := by decide +kernel
theorem sc_Demand_contains : FnScope (["self", "word"] : List Str) ["self", "word"] (defScope (meth 17 6)) := ⟨rfl, rfl, rfl, by decide +kernel, rfl, by decide +kernel, by decide +kernel⟩
theorem nl_Demand_contains_self : (defScope (meth 17 6)).names.lookup ("self" : Str) = some .local := by decide +kernel
theorem nl_Demand_contains_word : (defScope (meth 17 6)).names.lookup ("word" : Str) = some .local := by decide +kernel
theorem nl_Demand_contains_ends_at : (defScope (meth 17 6)).names.lookup ("ends_at" : Str) = some .globalImplicit := by decide +kernel
theorem nl_Demand_contains_state_behind : (defScope (meth 17 6)).names.lookup ("state_behind" : Str) = some .globalImplicit := by decide +kernel
theorem sc_Demand_bool : FnScope (["self"] : List Str) ["self"] (defScope (meth 17 7)) := ⟨rfl, rfl, rfl, by decide +kernel, rfl, by decide +kernel, by decide +kernel⟩
theorem nl_Demand_bool_self : (defScope (meth 17 7)).names.lookup ("self" : Str) = some .local := by decide +kernel
theorem nl_Demand_bool_len : (defScope (meth 17 7)).names.lookup ("len" : Str) = some .globalImplicit := by decide +kernel
theorem sc_Demand_behind : FnScope (["self", "field"] : List Str) ["self", "field"] (defScope (meth 17 9)) := ⟨rfl, rfl, rfl, by decide +kernel, rfl, by decide +kernel, by decide +kernel⟩
theorem nl_Demand_behind_self : (defScope (meth 17 9)).names.lookup ("self" : Str) = some .local := by decide +kernel
theorem nl_Demand_behind_field : (defScope (meth 17 9)).names.lookup ("field" : Str) = some .local := by decide +kernel
theorem nl_Demand_behind_Demand : (defScope (meth 17 9)).names.lookup ("Demand" : Str) = some .globalImplicit := by decide +kernel
theorem nl_Demand_behind_rooted : (defScope (meth 17 9)).names.lookup ("rooted" : Str) = some .globalImplicit := by decide +kernel
theorem nl_Demand_behind_state_behind : (defScope (meth 17 9)).names.lookup ("state_behind" : Str) = some .globalImplicit := by decide +kernel
theorem sc_Demand_fields : FnScope (["self"] : List Str) ["self"] (defScope (meth 17 10)) := ⟨rfl, rfl, rfl, by decide +kernel, rfl, by decide +kernel, by decide +kernel⟩
theorem nl_Demand_fields_self : (defScope (meth 17 10)).names.lookup ("self" : Str) = some .local := by decide +kernel
theorem nl_Demand_fields_edges_at : (defScope (meth 17 10)).names.lookup ("edges_at" : Str) = some .globalImplicit := by decide +kernel
theorem nl_Demand_fields_first_of : (defScope (meth 17 10)).names.lookup ("first_of" : Str) = some .globalImplicit := by decide +kernel
theorem nl_Demand_fields_list : (defScope (meth 17 10)).names.lookup ("list" : Str) = some .globalImplicit := by decide +kernel
theorem nl_Demand_fields_sorted : (defScope (meth 17 10)).names.lookup ("sorted" : Str) = some .globalImplicit := by decide +kernel
theorem nl_Demand_fields_tuple : (defScope (meth 17 10)).names.lookup ("tuple" : Str) = some .globalImplicit := by decide +kernel
theorem sc_law_deck : FnScope (["_law_script", "_law_cells", "_law_mixing", "_law_cell"] : List Str) ["_law_script"] (defScope (top 19)) := ⟨rfl, rfl, rfl, by decide +kernel, rfl, by decide +kernel, by decide +kernel⟩
theorem nl_law_deck__law_script : (defScope (top 19)).names.lookup ("_law_script" : Str) = some .local := by decide +kernel
theorem nl_law_deck__law_cells : (defScope (top 19)).names.lookup ("_law_cells" : Str) = some .local := by decide +kernel
theorem nl_law_deck__law_mixing : (defScope (top 19)).names.lookup ("_law_mixing" : Str) = some .local := by decide +kernel
theorem nl_law_deck__law_cell : (defScope (top 19)).names.lookup ("_law_cell" : Str) = some .local := by decide +kernel
theorem nl_law_deck_int : (defScope (top 19)).names.lookup ("int" : Str) = some .globalImplicit := by decide +kernel
theorem nl_law_deck_list : (defScope (top 19)).names.lookup ("list" : Str) = some .globalImplicit := by decide +kernel
theorem sc_law_draw : FnScope (["_law_deck_here", "_law_many", "_law_turn", "_law_cell", "_law_mixed"] : List Str) ["_law_deck_here", "_law_many"] (defScope (top 20)) := ⟨rfl, rfl, rfl, by decide +kernel, rfl, by decide +kernel, by decide +kernel⟩
theorem nl_law_draw__law_deck_here : (defScope (top 20)).names.lookup ("_law_deck_here" : Str) = some .local := by decide +kernel
theorem nl_law_draw__law_many : (defScope (top 20)).names.lookup ("_law_many" : Str) = some .local := by decide +kernel
theorem nl_law_draw__law_turn : (defScope (top 20)).names.lookup ("_law_turn" : Str) = some .local := by decide +kernel
theorem nl_law_draw__law_cell : (defScope (top 20)).names.lookup ("_law_cell" : Str) = some .local := by decide +kernel
theorem nl_law_draw__law_mixed : (defScope (top 20)).names.lookup ("_law_mixed" : Str) = some .local := by decide +kernel
theorem nl_law_draw_int : (defScope (top 20)).names.lookup ("int" : Str) = some .globalImplicit := by decide +kernel
theorem sc_law_pick : FnScope (["_law_deck_here", "_law_some"] : List Str) ["_law_deck_here", "_law_some"] (defScope (top 21)) := ⟨rfl, rfl, rfl, by decide +kernel, rfl, by decide +kernel, by decide +kernel⟩
theorem nl_law_pick__law_deck_here : (defScope (top 21)).names.lookup ("_law_deck_here" : Str) = some .local := by decide +kernel
theorem nl_law_pick__law_some : (defScope (top 21)).names.lookup ("_law_some" : Str) = some .local := by decide +kernel
theorem nl_law_pick__law_draw : (defScope (top 21)).names.lookup ("_law_draw" : Str) = some .globalImplicit := by decide +kernel
theorem nl_law_pick_len : (defScope (top 21)).names.lookup ("len" : Str) = some .globalImplicit := by decide +kernel
theorem sc_law_names : FnScope (["_law_deck_here", "_law_many", "_law_letters", "_law_first", "_law_way", "_law_words", "_law_stem", "_law_at", "_law_k"] : List Str) ["_law_deck_here", "_law_many"] (defScope (top 22)) := ⟨rfl, rfl, rfl, by decide +kernel, rfl, by decide +kernel, by decide +kernel⟩
theorem nl_law_names__law_deck_here : (defScope (top 22)).names.lookup ("_law_deck_here" : Str) = some .local := by decide +kernel
theorem nl_law_names__law_many : (defScope (top 22)).names.lookup ("_law_many" : Str) = some .local := by decide +kernel
theorem nl_law_names__law_letters : (defScope (top 22)).names.lookup ("_law_letters" : Str) = some .cell := by decide +kernel
theorem nl_law_names__law_first : (defScope (top 22)).names.lookup ("_law_first" : Str) = some .cell := by decide +kernel
theorem nl_law_names__law_way : (defScope (top 22)).names.lookup ("_law_way" : Str) = some .local := by decide +kernel
theorem nl_law_names__law_words : (defScope (top 22)).names.lookup ("_law_words" : Str) = some .cell := by decide +kernel
theorem nl_law_names__law_stem : (defScope (top 22)).names.lookup ("_law_stem" : Str) = some .cell := by decide +kernel
theorem nl_law_names__law_at : (defScope (top 22)).names.lookup ("_law_at" : Str) = some .cell := by decide +kernel
theorem nl_law_names__law_draw : (defScope (top 22)).names.lookup ("_law_draw" : Str) = some .globalImplicit := by decide +kernel
theorem nl_law_names__law_pick : (defScope (top 22)).names.lookup ("_law_pick" : Str) = some .globalImplicit := by decide +kernel
theorem nl_law_names_int : (defScope (top 22)).names.lookup ("int" : Str) = some .globalImplicit := by decide +kernel
theorem nl_law_names_range : (defScope (top 22)).names.lookup ("range" : Str) = some .globalImplicit := by decide +kernel
theorem sc_law_automaton : FnScope (["_law_deck_here", "_law_names_here", "_law_top", "_law_many", "_law_found", "_law_k", "_law_pairs", "_law_name"] : List Str) ["_law_deck_here", "_law_names_here", "_law_top"] (defScope (top 23)) := ⟨rfl, rfl, rfl, by decide +kernel, rfl, by decide +kernel, by decide +kernel⟩
theorem nl_law_automaton__law_deck_here : (defScope (top 23)).names.lookup ("_law_deck_here" : Str) = some .local := by decide +kernel
theorem nl_law_automaton__law_names_here : (defScope (top 23)).names.lookup ("_law_names_here" : Str) = some .local := by decide +kernel
theorem nl_law_automaton__law_top : (defScope (top 23)).names.lookup ("_law_top" : Str) = some .local := by decide +kernel
theorem nl_law_automaton__law_many : (defScope (top 23)).names.lookup ("_law_many" : Str) = some .local := by decide +kernel
theorem nl_law_automaton__law_found : (defScope (top 23)).names.lookup ("_law_found" : Str) = some .local := by decide +kernel
theorem nl_law_automaton__law_k : (defScope (top 23)).names.lookup ("_law_k" : Str) = some .local := by decide +kernel
theorem nl_law_automaton__law_pairs : (defScope (top 23)).names.lookup ("_law_pairs" : Str) = some .local := by decide +kernel
theorem nl_law_automaton__law_name : (defScope (top 23)).names.lookup ("_law_name" : Str) = some .local := by decide +kernel
theorem nl_law_automaton__law_draw : (defScope (top 23)).names.lookup ("_law_draw" : Str) = some .globalImplicit := by decide +kernel
theorem nl_law_automaton_range : (defScope (top 23)).names.lookup ("range" : Str) = some .globalImplicit := by decide +kernel
theorem nl_law_automaton_sorted : (defScope (top 23)).names.lookup ("sorted" : Str) = some .globalImplicit := by decide +kernel
theorem nl_law_automaton_tuple : (defScope (top 23)).names.lookup ("tuple" : Str) = some .globalImplicit := by decide +kernel
theorem sc_law_alive : FnScope (["_law_states", "_law_found", "_law_turn", "_law_k", "_law_ends", "_law_pairs", "_law_name", "_law_to_here"] : List Str) ["_law_states"] (defScope (top 24)) := ⟨rfl, rfl, rfl, by decide +kernel, rfl, by decide +kernel, by decide +kernel⟩
theorem nl_law_alive__law_states : (defScope (top 24)).names.lookup ("_law_states" : Str) = some .local := by decide +kernel
theorem nl_law_alive__law_found : (defScope (top 24)).names.lookup ("_law_found" : Str) = some .cell := by decide +kernel
theorem nl_law_alive__law_turn : (defScope (top 24)).names.lookup ("_law_turn" : Str) = some .local := by decide +kernel
theorem nl_law_alive__law_k : (defScope (top 24)).names.lookup ("_law_k" : Str) = some .local := by decide +kernel
theorem nl_law_alive_len : (defScope (top 24)).names.lookup ("len" : Str) = some .globalImplicit := by decide +kernel
theorem nl_law_alive_range : (defScope (top 24)).names.lookup ("range" : Str) = some .globalImplicit := by decide +kernel
theorem sc_law_to : FnScope (["_law_states", "_law_at", "_law_name", "_law_found", "_law_one", "_law_to_here"] : List Str) ["_law_states", "_law_at", "_law_name"] (defScope (top 25)) := ⟨rfl, rfl, rfl, by decide +kernel, rfl, by decide +kernel, by decide +kernel⟩
theorem nl_law_to__law_states : (defScope (top 25)).names.lookup ("_law_states" : Str) = some .local := by decide +kernel
theorem nl_law_to__law_at : (defScope (top 25)).names.lookup ("_law_at" : Str) = some .local := by decide +kernel
theorem nl_law_to__law_name : (defScope (top 25)).names.lookup ("_law_name" : Str) = some .cell := by decide +kernel
theorem nl_law_to__law_found : (defScope (top 25)).names.lookup ("_law_found" : Str) = some .local := by decide +kernel
theorem sc_law_is_same : FnScope (["_law_told", "_law_states", "_law_start", "_law_alive_here", "_law_seen", "_law_waiting", "_law_mine", "_law_theirs", "_law_pairs", "_law_one", "_law_twin", "_law_name", "_law_to_here"] : List Str) ["_law_told", "_law_states", "_law_start"] (defScope (top 26)) := ⟨rfl, rfl, rfl, by decide +kernel, rfl, by decide +kernel, by decide +kernel⟩
theorem nl_law_is_same__law_told : (defScope (top 26)).names.lookup ("_law_told" : Str) = some .local := by decide +kernel
theorem nl_law_is_same__law_states : (defScope (top 26)).names.lookup ("_law_states" : Str) = some .local := by decide +kernel
theorem nl_law_is_same__law_start : (defScope (top 26)).names.lookup ("_law_start" : Str) = some .local := by decide +kernel
theorem nl_law_is_same__law_alive_here : (defScope (top 26)).names.lookup ("_law_alive_here" : Str) = some .cell := by decide +kernel
theorem nl_law_is_same__law_seen : (defScope (top 26)).names.lookup ("_law_seen" : Str) = some .local := by decide +kernel
theorem nl_law_is_same__law_waiting : (defScope (top 26)).names.lookup ("_law_waiting" : Str) = some .local := by decide +kernel
theorem nl_law_is_same__law_mine : (defScope (top 26)).names.lookup ("_law_mine" : Str) = some .local := by decide +kernel
theorem nl_law_is_same__law_theirs : (defScope (top 26)).names.lookup ("_law_theirs" : Str) = some .local := by decide +kernel
theorem nl_law_is_same__law_pairs : (defScope (top 26)).names.lookup ("_law_pairs" : Str) = some .local := by decide +kernel
theorem nl_law_is_same__law_one : (defScope (top 26)).names.lookup ("_law_one" : Str) = some .local := by decide +kernel
theorem nl_law_is_same__law_twin : (defScope (top 26)).names.lookup ("_law_twin" : Str) = some .local := by decide +kernel
theorem nl_law_is_same_Demand : (defScope (top 26)).names.lookup ("Demand" : Str) = some .globalImplicit := by decide +kernel
theorem nl_law_is_same__law_alive : (defScope (top 26)).names.lookup ("_law_alive" : Str) = some .globalImplicit := by decide +kernel
theorem nl_law_is_same_repr : (defScope (top 26)).names.lookup ("repr" : Str) = some .globalImplicit := by decide +kernel
theorem nl_law_is_same_zip : (defScope (top 26)).names.lookup ("zip" : Str) = some .globalImplicit := by decide +kernel
theorem sc_law_fields_right : FnScope (["_law_one", "_law_states", "_law_start", "_law_alive_here", "_law_due", "_law_name", "_law_to_here"] : List Str) ["_law_one", "_law_states", "_law_start"] (defScope (top 27)) := ⟨rfl, rfl, rfl, by decide +kernel, rfl, by decide +kernel, by decide +kernel⟩
theorem nl_law_fields_right__law_one : (defScope (top 27)).names.lookup ("_law_one" : Str) = some .local := by decide +kernel
theorem nl_law_fields_right__law_states : (defScope (top 27)).names.lookup ("_law_states" : Str) = some .local := by decide +kernel
theorem nl_law_fields_right__law_start : (defScope (top 27)).names.lookup ("_law_start" : Str) = some .local := by decide +kernel
theorem nl_law_fields_right__law_alive_here : (defScope (top 27)).names.lookup ("_law_alive_here" : Str) = some .cell := by decide +kernel
theorem nl_law_fields_right__law_due : (defScope (top 27)).names.lookup ("_law_due" : Str) = some .local := by decide +kernel
theorem nl_law_fields_right__law_alive : (defScope (top 27)).names.lookup ("_law_alive" : Str) = some .globalImplicit := by decide +kernel
theorem nl_law_fields_right_repr : (defScope (top 27)).names.lookup ("repr" : Str) = some .globalImplicit := by decide +kernel
theorem nl_law_fields_right_tuple : (defScope (top 27)).names.lookup ("tuple" : Str) = some .globalImplicit := by decide +kernel
theorem sc_law_row_right : FnScope (["_law_deck_here", "_law_one", "_law_states", "_law_names_here", "_law_found", "_law_at", "_law_word", "_law_turn", "_law_name"] : List Str) ["_law_deck_here", "_law_one", "_law_states", "_law_names_here"] (defScope (top 28)) := ⟨rfl, rfl, rfl, by decide +kernel, rfl, by decide +kernel, by decide +kernel⟩
theorem nl_law_row_right__law_deck_here : (defScope (top 28)).names.lookup ("_law_deck_here" : Str) = some .local := by decide +kernel
theorem nl_law_row_right__law_one : (defScope (top 28)).names.lookup ("_law_one" : Str) = some .local := by decide +kernel
theorem nl_law_row_right__law_states : (defScope (top 28)).names.lookup ("_law_states" : Str) = some .local := by decide +kernel
theorem nl_law_row_right__law_names_here : (defScope (top 28)).names.lookup ("_law_names_here" : Str) = some .local := by decide +kernel
theorem nl_law_row_right__law_found : (defScope (top 28)).names.lookup ("_law_found" : Str) = some .local := by decide +kernel
theorem nl_law_row_right__law_at : (defScope (top 28)).names.lookup ("_law_at" : Str) = some .local := by decide +kernel
theorem nl_law_row_right__law_word : (defScope (top 28)).names.lookup ("_law_word" : Str) = some .local := by decide +kernel
theorem nl_law_row_right__law_turn : (defScope (top 28)).names.lookup ("_law_turn" : Str) = some .local := by decide +kernel
theorem nl_law_row_right__law_name : (defScope (top 28)).names.lookup ("_law_name" : Str) = some .local := by decide +kernel
theorem nl_law_row_right_Demand : (defScope (top 28)).names.lookup ("Demand" : Str) = some .globalImplicit := by decide +kernel
theorem nl_law_row_right__law_draw : (defScope (top 28)).names.lookup ("_law_draw" : Str) = some .globalImplicit := by decide +kernel
theorem nl_law_row_right__law_fields_right : (defScope (top 28)).names.lookup ("_law_fields_right" : Str) = some .globalImplicit := by decide +kernel
theorem nl_law_row_right__law_is_same : (defScope (top 28)).names.lookup ("_law_is_same" : Str) = some .globalImplicit := by decide +kernel
theorem nl_law_row_right__law_pick : (defScope (top 28)).names.lookup ("_law_pick" : Str) = some .globalImplicit := by decide +kernel
theorem nl_law_row_right__law_to : (defScope (top 28)).names.lookup ("_law_to" : Str) = some .globalImplicit := by decide +kernel
theorem nl_law_row_right_isinstance : (defScope (top 28)).names.lookup ("isinstance" : Str) = some .globalImplicit := by decide +kernel
theorem nl_law_row_right_len : (defScope (top 28)).names.lookup ("len" : Str) = some .globalImplicit := by decide +kernel
theorem nl_law_row_right_min : (defScope (top 28)).names.lookup ("min" : Str) = some .globalImplicit := by decide +kernel
theorem nl_law_row_right_range : (defScope (top 28)).names.lookup ("range" : Str) = some .globalImplicit := by decide +kernel
theorem sc_law : FnScope (["_law_script", "_law_deck_here", "_law_turn", "_law_names_here", "_law_states", "_law_one", "_law_start", "_law_kept", "_law_name", "_law_found", "_law_k"] : List Str) ["_law_script"] (defScope (top 29)) := ⟨rfl, rfl, rfl, by decide +kernel, rfl, by decide +kernel, by decide +kernel⟩
theorem nl_law__law_script : (defScope (top 29)).names.lookup ("_law_script" : Str) = some .local := by decide +kernel
theorem nl_law__law_deck_here : (defScope (top 29)).names.lookup ("_law_deck_here" : Str) = some .local := by decide +kernel
theorem nl_law__law_turn : (defScope (top 29)).names.lookup ("_law_turn" : Str) = some .local := by decide +kernel
theorem nl_law__law_names_here : (defScope (top 29)).names.lookup ("_law_names_here" : Str) = some .local := by decide +kernel
theorem nl_law__law_states : (defScope (top 29)).names.lookup ("_law_states" : Str) = some .local := by decide +kernel
theorem nl_law__law_one : (defScope (top 29)).names.lookup ("_law_one" : Str) = some .local := by decide +kernel
theorem nl_law__law_start : (defScope (top 29)).names.lookup ("_law_start" : Str) = some .local := by decide +kernel
theorem nl_law__law_kept : (defScope (top 29)).names.lookup ("_law_kept" : Str) = some .local := by decide +kernel
theorem nl_law__law_name : (defScope (top 29)).names.lookup ("_law_name" : Str) = some .local := by decide +kernel
theorem nl_law__law_found : (defScope (top 29)).names.lookup ("_law_found" : Str) = some .local := by decide +kernel
theorem nl_law__law_k : (defScope (top 29)).names.lookup ("_law_k" : Str) = some .local := by decide +kernel
theorem nl_law_Demand : (defScope (top 29)).names.lookup ("Demand" : Str) = some .globalImplicit := by decide +kernel
theorem nl_law__law_automaton : (defScope (top 29)).names.lookup ("_law_automaton" : Str) = some .globalImplicit := by decide +kernel
theorem nl_law__law_deck : (defScope (top 29)).names.lookup ("_law_deck" : Str) = some .globalImplicit := by decide +kernel
theorem nl_law__law_draw : (defScope (top 29)).names.lookup ("_law_draw" : Str) = some .globalImplicit := by decide +kernel
theorem nl_law__law_fields_right : (defScope (top 29)).names.lookup ("_law_fields_right" : Str) = some .globalImplicit := by decide +kernel
theorem nl_law__law_is_same : (defScope (top 29)).names.lookup ("_law_is_same" : Str) = some .globalImplicit := by decide +kernel
theorem nl_law__law_names : (defScope (top 29)).names.lookup ("_law_names" : Str) = some .globalImplicit := by decide +kernel
theorem nl_law__law_row_right : (defScope (top 29)).names.lookup ("_law_row_right" : Str) = some .globalImplicit := by decide +kernel
theorem nl_law__law_to : (defScope (top 29)).names.lookup ("_law_to" : Str) = some .globalImplicit := by decide +kernel
theorem nl_law_bool : (defScope (top 29)).names.lookup ("bool" : Str) = some .globalImplicit := by decide +kernel
theorem nl_law_len : (defScope (top 29)).names.lookup ("len" : Str) = some .globalImplicit := by decide +kernel
theorem nl_law_min : (defScope (top 29)).names.lookup ("min" : Str) = some .globalImplicit := by decide +kernel
theorem nl_law_range : (defScope (top 29)).names.lookup ("range" : Str) = some .globalImplicit := by decide +kernel
theorem nl_law_repr : (defScope (top 29)).names.lookup ("repr" : Str) = some .globalImplicit := by decide +kernel
structure Txt (P : Program) (w : World) (K : PySem.W.Frag) (mg : Str → Option Value) (Ad : Nat → Addr) (Fd : Nat → FuncData) (base : Heap) : Prop where
  sys : ∃ m, base.Ns sysModules m
  f_wall : Fun K "_wall" "_wall" (top 0) (Ad 0) (Fd 0)
  g_wall : mg "_wall" = some (.ref (Ad 0))
  b_wall : Binds K (Fd 0) ["k"] []
  f_lively_states : Fun K "lively_states" "lively_states" (top 6) (Ad 1) (Fd 1)
  g_lively_states : mg "lively_states" = some (.ref (Ad 1))
  b_lively_states : Binds K (Fd 1) ["automaton"] []
  f_classes_of : Fun K "classes_of" "classes_of" (top 7) (Ad 2) (Fd 2)
  g_classes_of : mg "classes_of" = some (.ref (Ad 2))
  b_classes_of : Binds K (Fd 2) ["automaton", "is_lively"] []
  f_first_of : Fun K "first_of" "first_of" (top 9) (Ad 4) (Fd 4)
  g_first_of : mg "first_of" = some (.ref (Ad 4))
  b_first_of : Binds K (Fd 4) ["automaton"] []
  f_edges_at : Fun K "edges_at" "edges_at" (top 10) (Ad 5) (Fd 5)
  g_edges_at : mg "edges_at" = some (.ref (Ad 5))
  b_edges_at : Binds K (Fd 5) ["automaton", "index"] []
  f_ends_at : Fun K "ends_at" "ends_at" (top 11) (Ad 6) (Fd 6)
  g_ends_at : mg "ends_at" = some (.ref (Ad 6))
  b_ends_at : Binds K (Fd 6) ["automaton", "index"] []
  f_rooted : Fun K "rooted" "rooted" (top 13) (Ad 8) (Fd 8)
  g_rooted : mg "rooted" = some (.ref (Ad 8))
  b_rooted : Binds K (Fd 8) ["automaton", "index"] []
  f_is_ending : Fun K "is_ending" "is_ending" (top 14) (Ad 9) (Fd 9)
  g_is_ending : mg "is_ending" = some (.ref (Ad 9))
  b_is_ending : Binds K (Fd 9) ["how", "one", "other"] []
  f_Demand_bool : Fun K "__bool__" "Demand.__bool__" (meth 17 7) (Ad 18) (Fd 18)
  m_Demand_bool : SpF K mg "Demand" "__bool__" (Ad 18)
  b_Demand_bool : Binds K (Fd 18) ["self"] []
  f_law_deck : Fun K "_law_deck" "_law_deck" (top 19) (Ad 23) (Fd 23)
  g_law_deck : mg "_law_deck" = some (.ref (Ad 23))
  b_law_deck : Binds K (Fd 23) ["_law_script"] []
  f_law_draw : Fun K "_law_draw" "_law_draw" (top 20) (Ad 24) (Fd 24)
  g_law_draw : mg "_law_draw" = some (.ref (Ad 24))
  b_law_draw : Binds K (Fd 24) ["_law_deck_here", "_law_many"] []
  f_law_alive : Fun K "_law_alive" "_law_alive" (top 24) (Ad 28) (Fd 28)
  g_law_alive : mg "_law_alive" = some (.ref (Ad 28))
  b_law_alive : Binds K (Fd 28) ["_law_states"] []
  f_law_to : Fun K "_law_to" "_law_to" (top 25) (Ad 29) (Fd 29)
  g_law_to : mg "_law_to" = some (.ref (Ad 29))
  b_law_to : Binds K (Fd 29) ["_law_states", "_law_at", "_law_name"] []
  f_least : Fun K "least" "least" (top 8) (Ad 3) (Fd 3)
  g_least : mg "least" = some (.ref (Ad 3))
  b_least : Binds K (Fd 3) ["automaton"] []
  f_state_behind : Fun K "state_behind" "state_behind" (top 12) (Ad 7) (Fd 7)
  g_state_behind : mg "state_behind" = some (.ref (Ad 7))
  b_state_behind : Binds K (Fd 7) ["automaton", "word"] []
  f_paired : Fun K "paired" "paired" (top 15) (Ad 10) (Fd 10)
  g_paired : mg "paired" = some (.ref (Ad 10))
  b_paired : Binds K (Fd 10) ["how", "one", "other"] []
  f_Demand_fields : Fun K "fields" "Demand.fields" (meth 17 10) (Ad 21) (Fd 21)
  m_Demand_fields : PropF K mg "Demand" "fields" (Ad 21)
  b_Demand_fields : Binds K (Fd 21) ["self"] []
  f_law_pick : Fun K "_law_pick" "_law_pick" (top 21) (Ad 25) (Fd 25)
  g_law_pick : mg "_law_pick" = some (.ref (Ad 25))
  b_law_pick : Binds K (Fd 25) ["_law_deck_here", "_law_some"] []
  f_law_automaton : Fun K "_law_automaton" "_law_automaton" (top 23) (Ad 27) (Fd 27)
  g_law_automaton : mg "_law_automaton" = some (.ref (Ad 27))
  b_law_automaton : Binds K (Fd 27) ["_law_deck_here", "_law_names_here", "_law_top"] []
  f_Demand_init : Fun K "__init__" "Demand.__init__" (meth 17 0) (Ad 11) (Fd 11)
  m_Demand_init : MakeF K mg "Demand" (Ad 11)
  b_Demand_init : Binds K (Fd 11) ["self", "automaton"] []
  f_Demand_contains : Fun K "__contains__" "Demand.__contains__" (meth 17 6) (Ad 17) (Fd 17)
  m_Demand_contains : SpF K mg "Demand" "__contains__" (Ad 17)
  b_Demand_contains : Binds K (Fd 17) ["self", "word"] []
  f_law_names : Fun K "_law_names" "_law_names" (top 22) (Ad 26) (Fd 26)
  g_law_names : mg "_law_names" = some (.ref (Ad 26))
  b_law_names : Binds K (Fd 26) ["_law_deck_here", "_law_many"] []
  f_law_fields_right : Fun K "_law_fields_right" "_law_fields_right" (top 27) (Ad 31) (Fd 31)
  g_law_fields_right : mg "_law_fields_right" = some (.ref (Ad 31))
  b_law_fields_right : Binds K (Fd 31) ["_law_one", "_law_states", "_law_start"] []
  f_Demand_of : Fun K "of" "Demand.of" (meth 17 1) (Ad 12) (Fd 12)
  m_Demand_of : StatF K mg "Demand" "of" (Ad 12)
  b_Demand_of : Binds K (Fd 12) ["automaton"] []
  f_Demand_eq : Fun K "__eq__" "Demand.__eq__" (meth 17 2) (Ad 13) (Fd 13)
  m_Demand_eq : SpF K mg "Demand" "__eq__" (Ad 13)
  b_Demand_eq : Binds K (Fd 13) ["self", "other"] []
  f_Demand_behind : Fun K "behind" "Demand.behind" (meth 17 9) (Ad 20) (Fd 20)
  m_Demand_behind : MethF K mg "Demand" "behind" (Ad 20)
  b_Demand_behind : Binds K (Fd 20) ["self", "field"] []
  f_law_is_same : Fun K "_law_is_same" "_law_is_same" (top 26) (Ad 30) (Fd 30)
  g_law_is_same : mg "_law_is_same" = some (.ref (Ad 30))
  b_law_is_same : Binds K (Fd 30) ["_law_told", "_law_states", "_law_start"] []
  f_law_row_right : Fun K "_law_row_right" "_law_row_right" (top 28) (Ad 32) (Fd 32)
  g_law_row_right : mg "_law_row_right" = some (.ref (Ad 32))
  b_law_row_right : Binds K (Fd 32) ["_law_deck_here", "_law_one", "_law_states", "_law_names_here"] []
  f_law : Fun K "law" "law" (top 29) (Ad 33) (Fd 33)
  g_law : mg "law" = some (.ref (Ad 33))
  b_law : Binds K (Fd 33) ["_law_script"] []
  is_Demand : IsiF K mg "Demand"
  fl_Demand_automaton : Fld K mg "Demand" "automaton"
  kw_0 : KwB K (Fd 20) ["self", "field"] ["field"] 1 [0, 1]
  n_bool : mg "bool" = none
  n_dict : mg "dict" = none
  n_enumerate : mg "enumerate" = none
  n_int : mg "int" = none
  n_isinstance : mg "isinstance" = none
  n_len : mg "len" = none
  n_list : mg "list" = none
  n_min : mg "min" = none
  n_range : mg "range" = none
  n_repr : mg "repr" = none
  n_set : mg "set" = none
  n_sorted : mg "sorted" = none
  n_tuple : mg "tuple" = none
  n_zip : mg "zip" = none
  cv_BOTH : ∃ (u : Value) (v : V), mg "BOTH" = some u ∧ RelV v u ∧ ∀ H, Rep ⟨K, w, P, mg⟩ H v g_BOTH
  cv_EITHER : ∃ (u : Value) (v : V), mg "EITHER" = some u ∧ RelV v u ∧ ∀ H, Rep ⟨K, w, P, mg⟩ H v g_EITHER
  cv_FIRST_ALONE : ∃ (u : Value) (v : V), mg "FIRST_ALONE" = some u ∧ RelV v u ∧ ∀ H, Rep ⟨K, w, P, mg⟩ H v g_FIRST_ALONE
  cv_NOWHERE : ∃ (u : Value) (v : V), mg "NOWHERE" = some u ∧ RelV v u ∧ ∀ H, Rep ⟨K, w, P, mg⟩ H v g_NOWHERE
section
variable {P : Program} {w : World} {K : PySem.W.Frag} {mg : Str → Option Value} {Ad : Nat → Addr} {Fd : Nat → FuncData} {base : Heap}
theorem ok_lively_states (T : Txt P w K mg Ad Fd base) : FnG P w K mg base CX0 1 (Ad 1) (Fd 1) (["automaton"] : List Str) (spF ⟨K, w, P, mg⟩ 1 (ap1 c_lively_states)) := by
  refine fng_cast (fng_forget (fng_code (st := top 6) (N := ["automaton", "sources", "found", "index", "ends", "edges", "field", "other", "waiting", "last", "state"]) (k := 0) (code := apB1 cb_lively_states) (Jn := fun _ => List.replicate 11 none) (Jl := fun _ => []) T.f_lively_states sc_lively_states fun cdv A outer s H E ds hg hcd hr hl => ?_)) (apG1 cb_lively_states)
  match ds, hl with
  | [v0_automaton], _ =>
  have hgd : (A.deeper (envOfC "lively_states" (defScope (top 6)) s.heap.objs.size (Ad 1) cdv)).guards = some [] := hg
  have hu := hr.units
  replace hcd := code_kds hcd
  show DB _ _ _ _ [some v0_automaton, none, none, none, none, none, none, none, none, none, none] _ (cb_lively_states v0_automaton)
  unfold cb_lively_states
  unfold m1_lively_states
  refine db_letLc (p := .nm) (is := [10]) (own := [("state", 10)]) (mt := fun (ds2 : List D) => W.pure true) (me := fun (ds2 : List D) => eLstF []) 1 rfl sc_lively_states.nd rfl nl_lively_states_sources (sw_true rfl nl_lively_states_sources rfl rfl) (di_seq2 (de_var 0 rfl rfl (.inl nl_lively_states_automaton))) (by show BlkOk ["automaton", "sources", "found", "index", "ends", "edges", "field", "other", "waiting", "last", "state"] ⟨_, _, _, _, _⟩ ⟨_, _, _, _, _⟩ [("state", 10)]; exact ⟨rfl, by decide +kernel, by first | decide +kernel | (intro y hy z; exfalso; revert y; decide +kernel), by first | decide +kernel | (intro y hy z; exfalso; revert y; decide +kernel), by first | decide +kernel | (intro y hy z; exfalso; revert y; decide +kernel)⟩) rfl (fun _ _ _ _ _ => (dg_nm 10 sc_lively_states.nd rfl (.inl (rl_local (by decide +kernel))) (.inr (rl_local (by decide +kernel))))) (fun _ _ _ _ _ ds2 => by show DTs _ _ [some v0_automaton, none, none, none, none, none, none, none, none, none, some (ds2.getD 0 .non)] _ _; generalize ds2.getD 0 .non = t3_state; exact dts_nil) (fun _ _ _ _ _ ds2 => by show DE _ _ [some v0_automaton, none, none, none, none, none, none, none, none, none, some (ds2.getD 0 .non)] _ _; generalize ds2.getD 0 .non = t3_state; exact (de_lstF da_nil (Nat.le_of_ble_eq_true rfl))) (fun v4_sources => ?_)
  show DB _ _ _ _ [some v0_automaton, some v4_sources, none, none, none, none, none, none, none, none, none] _ _
  unfold m2_lively_states
  refine db_letLc (p := .tp [.nm, .nm]) (is := [4, 5]) (own := [("ends", 4), ("edges", 5)]) (mt := fun (ds5 : List D) => W.pure true) (me := fun (ds5 : List D) => W.pure (ds5.getD 0 .non)) 2 rfl sc_lively_states.nd rfl nl_lively_states_found (sw_true rfl nl_lively_states_found rfl rfl) (di_seq2 (de_var 0 rfl rfl (.inl nl_lively_states_automaton))) (by show BlkOk ["automaton", "sources", "found", "index", "ends", "edges", "field", "other", "waiting", "last", "state"] ⟨_, _, _, _, _⟩ ⟨_, _, _, _, _⟩ [("ends", 4), ("edges", 5)]; exact ⟨rfl, by decide +kernel, by first | decide +kernel | (intro y hy z; exfalso; revert y; decide +kernel), by first | decide +kernel | (intro y hy z; exfalso; revert y; decide +kernel), by first | decide +kernel | (intro y hy z; exfalso; revert y; decide +kernel)⟩) rfl (fun _ _ _ _ _ => (dg_tp rfl (dgs_cons (dg_nm 4 sc_lively_states.nd rfl (.inl (rl_local (by decide +kernel))) (.inr (rl_local (by decide +kernel)))) (dgs_cons (dg_nm 5 sc_lively_states.nd rfl (.inl (rl_local (by decide +kernel))) (.inr (rl_local (by decide +kernel)))) dgs_nil)))) (fun _ _ _ _ _ ds5 => by show DTs _ _ [some v0_automaton, some v4_sources, none, none, some (ds5.getD 0 .non), some (ds5.getD 1 .non), none, none, none, none, none] _ _; generalize ds5.getD 0 .non = t6_ends; generalize ds5.getD 1 .non = t7_edges; exact dts_nil) (fun _ _ _ _ _ ds5 => by show DE _ _ [some v0_automaton, some v4_sources, none, none, some (ds5.getD 0 .non), some (ds5.getD 1 .non), none, none, none, none, none] _ _; generalize ds5.getD 0 .non = t6_ends; generalize ds5.getD 1 .non = t7_edges; exact (de_var 4 rfl rfl (.inl (rl_local (by decide +kernel))))) (fun v8_found => ?_)
  show DB _ _ _ _ [some v0_automaton, some v4_sources, some v8_found, none, none, none, none, none, none, none, none] _ _
  refine db_for (Jh := fun (q9 : Unit) => [some v0_automaton, some v4_sources, some v8_found, none, none, none, none, none, none, none, none]) (p := .tp [.nm, .tp [.nm, .nm]]) (is := [3, 4, 5]) (b := fun ds13 c => l1_lively_states v4_sources (ds13.getD 0 .non) (ds13.getD 1 .non) (ds13.getD 2 .non) c) (c0 := ()) PassesOwn.never rfl (di_enum3 nl_lively_states_enumerate T.n_enumerate (da_cons (de_var 0 rfl rfl (.inl nl_lively_states_automaton)) da_nil)) (dg_tp rfl (dgs_cons (dg_nm 3 sc_lively_states.nd rfl (.inl nl_lively_states_index) (.inr nl_lively_states_index)) (dgs_cons (dg_tp rfl (dgs_cons (dg_nm 4 sc_lively_states.nd rfl (.inl nl_lively_states_ends) (.inr nl_lively_states_ends)) (dgs_cons (dg_nm 5 sc_lively_states.nd rfl (.inl nl_lively_states_edges) (.inr nl_lively_states_edges)) dgs_nil))) dgs_nil))) (fun ds13 q9 => ?_) (.s (.s (.s (.s (.s (.s (.s (.s (.s (.s (.s .nil))))))))))) (fun q19 => ?_)
  · show DB _ _ _ _ [some v0_automaton, some v4_sources, some v8_found, some (ds13.getD 0 .non), some (ds13.getD 1 .non), some (ds13.getD 2 .non), none, none, none, none, none] _ (l1_lively_states v4_sources (ds13.getD 0 .non) (ds13.getD 1 .non) (ds13.getD 2 .non) q9)
    unfold l1_lively_states
    generalize ds13.getD 0 .non = t10_index
    generalize ds13.getD 1 .non = t11_ends
    generalize ds13.getD 2 .non = t12_edges
    refine db_for (Jh := fun (q14 : Unit) => [some v0_automaton, some v4_sources, some v8_found, some t10_index, some t11_ends, some t12_edges, none, none, none, none, none]) (p := .tp [.nm, .nm]) (is := [6, 7]) (b := fun ds17 c => l2_lively_states v4_sources t10_index (ds17.getD 0 .non) (ds17.getD 1 .non) c) (c0 := ()) PassesOwn.never rfl (di_seq2 (de_var 5 rfl rfl (.inl nl_lively_states_edges))) (dg_tp rfl (dgs_cons (dg_nm 6 sc_lively_states.nd rfl (.inl nl_lively_states_field) (.inr nl_lively_states_field)) (dgs_cons (dg_nm 7 sc_lively_states.nd rfl (.inl nl_lively_states_other) (.inr nl_lively_states_other)) dgs_nil))) (fun ds17 q14 => ?_) (.s (.s (.s (.s (.s (.s (.s (.s (.s (.s (.s .nil))))))))))) (fun q18 => ?_)
    · show DB _ _ _ _ [some v0_automaton, some v4_sources, some v8_found, some t10_index, some t11_ends, some t12_edges, some (ds17.getD 0 .non), some (ds17.getD 1 .non), none, none, none] _ (l2_lively_states v4_sources t10_index (ds17.getD 0 .non) (ds17.getD 1 .non) q14)
      unfold l2_lively_states
      generalize ds17.getD 0 .non = t15_field
      generalize ds17.getD 1 .non = t16_other
      refine db_sub (set_2 hu) s_set2 (de_addF3 (de_ix (ix_2 hu) s_ix2 (de_var 1 rfl rfl (.inl nl_lively_states_sources)) (de_var 7 rfl rfl (.inl nl_lively_states_other)) (fun _ _ => rfl)) (de_lstF (da_cons (de_var 3 rfl rfl (.inl nl_lively_states_index)) da_nil) (Nat.le_of_ble_eq_true rfl))) (de_var 1 rfl rfl (.inl nl_lively_states_sources)) (de_var 7 rfl rfl (.inl nl_lively_states_other)) ?_
      exact db_nil (.s (.s (.s (.s (.s (.s (.n (.n (.s (.s (.s .nil)))))))))))
    show DB _ _ _ _ [some v0_automaton, some v4_sources, some v8_found, some t10_index, some t11_ends, some t12_edges, none, none, none, none, none] _ _
    exact db_nil (.s (.s (.s (.n (.n (.n (.s (.s (.s (.s (.s .nil)))))))))))
  show DB _ _ _ _ [some v0_automaton, some v4_sources, some v8_found, none, none, none, none, none, none, none, none] _ _
  refine db_frzQ 1 rfl (fun v20_sources => ?_)
  show DB _ _ _ _ [some v0_automaton, some v20_sources, some v8_found, none, none, none, none, none, none, none, none] _ _
  unfold m3_lively_states
  refine db_letLc (p := .tp [.nm, .nm]) (is := [3, 4]) (own := [("index", 3), ("ends", 4)]) (mt := fun (ds21 : List D) => (W.pure (ds21.getD 1 .non)).bind opTru) (me := fun (ds21 : List D) => W.pure (ds21.getD 0 .non)) 8 rfl sc_lively_states.nd rfl nl_lively_states_waiting (sw_true rfl nl_lively_states_waiting rfl rfl) (di_enum3 nl_lively_states_enumerate T.n_enumerate (da_cons (de_var 2 rfl rfl (.inl nl_lively_states_found)) da_nil)) (by show BlkOk ["automaton", "sources", "found", "index", "ends", "edges", "field", "other", "waiting", "last", "state"] ⟨_, _, _, _, _⟩ ⟨_, _, _, _, _⟩ [("index", 3), ("ends", 4)]; exact ⟨rfl, by decide +kernel, by first | decide +kernel | (intro y hy z; exfalso; revert y; decide +kernel), by first | decide +kernel | (intro y hy z; exfalso; revert y; decide +kernel), by first | decide +kernel | (intro y hy z; exfalso; revert y; decide +kernel)⟩) rfl (fun _ _ _ _ _ => (dg_tp rfl (dgs_cons (dg_nm 3 sc_lively_states.nd rfl (.inl (rl_local (by decide +kernel))) (.inr (rl_local (by decide +kernel)))) (dgs_cons (dg_nm 4 sc_lively_states.nd rfl (.inl (rl_local (by decide +kernel))) (.inr (rl_local (by decide +kernel)))) dgs_nil)))) (fun _ _ _ _ _ ds21 => by show DTs _ _ [some v0_automaton, some v20_sources, some v8_found, some (ds21.getD 0 .non), some (ds21.getD 1 .non), none, none, none, none, none, none] _ _; generalize ds21.getD 0 .non = t22_index; generalize ds21.getD 1 .non = t23_ends; exact (dts_one (dt_val tru_ok s_tru (de_var 4 rfl rfl (.inl (rl_local (by decide +kernel))))))) (fun _ _ _ _ _ ds21 => by show DE _ _ [some v0_automaton, some v20_sources, some v8_found, some (ds21.getD 0 .non), some (ds21.getD 1 .non), none, none, none, none, none, none] _ _; generalize ds21.getD 0 .non = t22_index; generalize ds21.getD 1 .non = t23_ends; exact (de_var 3 rfl rfl (.inl (rl_local (by decide +kernel))))) (fun v24_waiting => ?_)
  show DB _ _ _ _ [some v0_automaton, some v20_sources, some v8_found, none, none, none, none, none, some v24_waiting, none, none] _ _
  refine db_while (Jh := fun (q25 : Unit) => [some v0_automaton, some v20_sources, some v8_found, none, none, none, none, none, some v24_waiting, none, none]) (t := fun q25 => c2 opNe5 (W.pure v24_waiting) (eLstF [])) (b := fun c => l3_lively_states v24_waiting v20_sources v8_found c) (c0 := ()) PassesOwn.never (fun q25 => ?_) (fun q25 => ?_) (.s (.s (.s (.s (.s (.s (.s (.s (.s (.s (.s .nil))))))))))) (fun q31 => ?_)
  · exact (dt_cmp (o_ne4 hu) s_ne5 (de_var 8 rfl rfl (.inl nl_lively_states_waiting)) (de_lstF da_nil (Nat.le_of_ble_eq_true rfl)) (nomark _))
  · show DB _ _ _ _ [some v0_automaton, some v20_sources, some v8_found, none, none, none, none, none, some v24_waiting, none, none] _ (l3_lively_states v24_waiting v20_sources v8_found q25)
    unfold l3_lively_states
    refine db_let 9 sc_lively_states.nd rfl (.inl nl_lively_states_last) (de_meth0 PySem.F.plainAttrs_list PySem.F.slot_list_pop PySem.F.type_list_pop ty_list st_list mt_pop s_pop (de_var 8 rfl rfl (.inl nl_lively_states_waiting))) (fun v26_last => ?_) (hf := (.inr nl_lively_states_last))
    show DB _ _ _ _ [some v0_automaton, some v20_sources, some v8_found, none, none, none, none, none, some v24_waiting, some v26_last, none] _ _
    refine db_for (Jh := fun (q27 : Unit) => [some v0_automaton, some v20_sources, some v8_found, none, none, none, none, none, some v24_waiting, some v26_last, none]) (p := .nm) (is := [3]) (b := fun ds29 c => l4_lively_states v8_found v24_waiting (ds29.getD 0 .non) c) (c0 := ()) PassesOwn.never rfl (di_seq2 (de_ix (ix_2 hu) s_ix2 (de_var 1 rfl rfl (.inl nl_lively_states_sources)) (de_var 9 rfl rfl (.inl nl_lively_states_last)) (fun _ _ => rfl))) (dg_nm 3 sc_lively_states.nd rfl (.inl nl_lively_states_index) (.inr nl_lively_states_index)) (fun ds29 q27 => ?_) (.s (.s (.s (.s (.s (.s (.s (.s (.s (.s (.s .nil))))))))))) (fun q30 => ?_)
    · show DB _ _ _ _ [some v0_automaton, some v20_sources, some v8_found, some (ds29.getD 0 .non), none, none, none, none, some v24_waiting, some v26_last, none] _ (l4_lively_states v8_found v24_waiting (ds29.getD 0 .non) q27)
      unfold l4_lively_states
      generalize ds29.getD 0 .non = t28_index
      refine db_ifL (dt_not (dt_val tru_ok s_tru (de_ix (ix_2 hu) s_ix2 (de_var 2 rfl rfl (.inl nl_lively_states_found)) (de_var 3 rfl rfl (.inl nl_lively_states_index)) (fun _ _ => rfl)))) ?_ ?_
      · refine db_sub (set_2 hu) s_set2 de_bl (de_var 2 rfl rfl (.inl nl_lively_states_found)) (de_var 3 rfl rfl (.inl nl_lively_states_index)) ?_
        refine db_expr (de_meth PySem.F.plainAttrs_list PySem.F.slot_list_append PySem.F.type_list_append ty_list st_list mt_append s_append (de_var 8 rfl rfl (.inl nl_lively_states_waiting)) (da_cons (de_var 3 rfl rfl (.inl nl_lively_states_index)) da_nil)) ?_
        exact db_nil (.s (.s (.s (.n (.s (.s (.s (.s (.s (.s (.s .nil)))))))))))
      · exact db_nil (.s (.s (.s (.n (.s (.s (.s (.s (.s (.s (.s .nil)))))))))))
    show DB _ _ _ _ [some v0_automaton, some v20_sources, some v8_found, none, none, none, none, none, some v24_waiting, some v26_last, none] _ _
    exact db_nil (.s (.s (.s (.s (.s (.s (.s (.s (.s (.n (.s .nil)))))))))))
  show DB _ _ _ _ [some v0_automaton, some v20_sources, some v8_found, none, none, none, none, none, some v24_waiting, none, none] _ _
  refine db_frzQ 2 rfl (fun v32_found => ?_)
  show DB _ _ _ _ [some v0_automaton, some v20_sources, some v32_found, none, none, none, none, none, some v24_waiting, none, none] _ _
  exact db_ret (de_var 2 rfl rfl (.inl nl_lively_states_found))
theorem ok_classes_of (T : Txt P w K mg Ad Fd base) : FnG P w K mg base CX0 1 (Ad 2) (Fd 2) (["automaton", "is_lively"] : List Str) (spF ⟨K, w, P, mg⟩ 2 (ap2 c_classes_of)) := by
  refine fng_cast (fng_forget (fng_code (st := top 7) (N := ["automaton", "is_lively", "classes", "many", "numbers", "found", "index", "ends", "edges", "told", "field", "other"]) (k := 0) (code := apB2 cb_classes_of) (Jn := fun _ => List.replicate 12 none) (Jl := fun _ => []) T.f_classes_of sc_classes_of fun cdv A outer s H E ds hg hcd hr hl => ?_)) (apG2 cb_classes_of)
  match ds, hl with
  | [v0_automaton, v1_is_lively], _ =>
  have hgd : (A.deeper (envOfC "classes_of" (defScope (top 7)) s.heap.objs.size (Ad 2) cdv)).guards = some [] := hg
  have hu := hr.units
  replace hcd := code_kds hcd
  show DB _ _ _ _ [some v0_automaton, some v1_is_lively, none, none, none, none, none, none, none, none, none, none] _ (cb_classes_of v0_automaton v1_is_lively)
  unfold cb_classes_of
  unfold m1_classes_of
  refine db_let 2 sc_classes_of.nd rfl (.inr nl_classes_of_classes) (de_frzQ (de_lc (p := .tp [.nm, .nm]) (is := [7, 8]) (own := [("ends", 7), ("edges", 8)]) (mt := fun (ds3 : List D) => W.pure true) (me := fun (ds3 : List D) => eCall bInt [W.pure (ds3.getD 0 .non)]) rfl sc_classes_of.nd (di_seq2 (de_var 0 rfl rfl (.inl nl_classes_of_automaton))) (by show BlkOk ["automaton", "is_lively", "classes", "many", "numbers", "found", "index", "ends", "edges", "told", "field", "other"] ⟨_, _, _, _, _⟩ ⟨_, _, _, _, _⟩ [("ends", 7), ("edges", 8)]; exact ⟨rfl, by decide +kernel, by first | decide +kernel | (intro y hy z; exfalso; revert y; decide +kernel), by first | decide +kernel | (intro y hy z; exfalso; revert y; decide +kernel), by first | decide +kernel | (intro y hy z; exfalso; revert y; decide +kernel)⟩) rfl (fun _ _ _ _ _ => (dg_tp rfl (dgs_cons (dg_nm 7 sc_classes_of.nd rfl (.inl (rl_local (by decide +kernel))) (.inr (rl_local (by decide +kernel)))) (dgs_cons (dg_nm 8 sc_classes_of.nd rfl (.inl (rl_local (by decide +kernel))) (.inr (rl_local (by decide +kernel)))) dgs_nil)))) (fun _ _ _ _ _ ds3 => by show DTs _ _ [some v0_automaton, some v1_is_lively, none, none, none, none, none, some (ds3.getD 0 .non), some (ds3.getD 1 .non), none, none, none] _ _; generalize ds3.getD 0 .non = t4_ends; generalize ds3.getD 1 .non = t5_edges; exact dts_nil) (fun _ _ _ _ _ ds3 => by show DE _ _ [some v0_automaton, some v1_is_lively, none, none, none, none, none, some (ds3.getD 0 .non), some (ds3.getD 1 .non), none, none, none] _ _; generalize ds3.getD 0 .non = t4_ends; generalize ds3.getD 1 .non = t5_edges; exact (de_callT call_int1 s_int (rl_glob (by decide +kernel)) T.n_int bt_int (da_cons (de_var 7 rfl rfl (.inl (rl_local (by decide +kernel)))) da_nil))))) (fun v6_classes => ?_) (hf := (.inl rfl))
  show DB _ _ _ _ [some v0_automaton, some v1_is_lively, some v6_classes, none, none, none, none, none, none, none, none, none] _ _
  refine db_let 3 sc_classes_of.nd rfl (.inl nl_classes_of_many) de_int (fun v7_many => ?_) (hf := (.inr nl_classes_of_many))
  show DB _ _ _ _ [some v0_automaton, some v1_is_lively, some v6_classes, some v7_many, none, none, none, none, none, none, none, none] _ _
  refine db_while (Jh := fun (q8 : D × D) => [some v0_automaton, some v1_is_lively, some q8.1, some q8.2, none, none, none, none, none, none, none, none]) (t := fun q8 => c2 opNe4 (W.pure q8.2) ((W.pure q8.1).bind bLenSetI)) (b := fun c => l1_classes_of v0_automaton v1_is_lively c) (c0 := (v6_classes, v7_many)) PassesOwn.never (fun q8 => ?_) (fun q8 => ?_) (.s (.s (.s (.s (.s (.s (.s (.s (.s (.s (.s (.s .nil)))))))))))) (fun q23 => ?_)
  · exact (dt_cmp (o_ne4 hu) s_ne4 (de_var 3 rfl rfl (.inl nl_classes_of_many)) (de_lenSetI nl_classes_of_len T.n_len nl_classes_of_set T.n_set (de_var 2 rfl rfl (.inr (.inl nl_classes_of_classes)))) (nomark _))
  · show DB _ _ _ _ [some v0_automaton, some v1_is_lively, some q8.1, some q8.2, none, none, none, none, none, none, none, none] _ (l1_classes_of v0_automaton v1_is_lively q8)
    unfold l1_classes_of
    refine db_let 3 sc_classes_of.nd rfl (.inl nl_classes_of_many) (de_lenSetI nl_classes_of_len T.n_len nl_classes_of_set T.n_set (de_var 2 rfl rfl (.inr (.inl nl_classes_of_classes)))) (fun v9_many => ?_) (hf := (.inr nl_classes_of_many))
    show DB _ _ _ _ [some v0_automaton, some v1_is_lively, some q8.1, some v9_many, none, none, none, none, none, none, none, none] _ _
    refine db_let 4 sc_classes_of.nd rfl (.inl nl_classes_of_numbers) de_newD (fun v10_numbers => ?_) (hf := (.inr nl_classes_of_numbers))
    show DB _ _ _ _ [some v0_automaton, some v1_is_lively, some q8.1, some v9_many, some v10_numbers, none, none, none, none, none, none, none] _ _
    refine db_let 5 sc_classes_of.nd rfl (.inl nl_classes_of_found) (de_lst da_nil (Nat.le_of_ble_eq_true rfl)) (fun v11_found => ?_) (hf := (.inr nl_classes_of_found))
    show DB _ _ _ _ [some v0_automaton, some v1_is_lively, some q8.1, some v9_many, some v10_numbers, some v11_found, none, none, none, none, none, none] _ _
    refine db_for (Jh := fun (q12 : Unit) => [some v0_automaton, some v1_is_lively, some q8.1, some v9_many, some v10_numbers, some v11_found, none, none, none, none, none, none]) (p := .tp [.nm, .tp [.nm, .nm]]) (is := [6, 7, 8]) (b := fun ds16 c => l2_classes_of v1_is_lively q8 v11_found v10_numbers (ds16.getD 0 .non) (ds16.getD 1 .non) (ds16.getD 2 .non) c) (c0 := ()) PassesOwn.never rfl (di_enum3 nl_classes_of_enumerate T.n_enumerate (da_cons (de_var 0 rfl rfl (.inl nl_classes_of_automaton)) da_nil)) (dg_tp rfl (dgs_cons (dg_nm 6 sc_classes_of.nd rfl (.inl nl_classes_of_index) (.inr nl_classes_of_index)) (dgs_cons (dg_tp rfl (dgs_cons (dg_nm 7 sc_classes_of.nd rfl (.inl nl_classes_of_ends) (.inr nl_classes_of_ends)) (dgs_cons (dg_nm 8 sc_classes_of.nd rfl (.inl nl_classes_of_edges) (.inr nl_classes_of_edges)) dgs_nil))) dgs_nil))) (fun ds16 q12 => ?_) (.s (.s (.s (.s (.s (.s (.s (.s (.s (.s (.s (.s .nil)))))))))))) (fun q21 => ?_)
    · show DB _ _ _ _ [some v0_automaton, some v1_is_lively, some q8.1, some v9_many, some v10_numbers, some v11_found, some (ds16.getD 0 .non), some (ds16.getD 1 .non), some (ds16.getD 2 .non), none, none, none] _ (l2_classes_of v1_is_lively q8 v11_found v10_numbers (ds16.getD 0 .non) (ds16.getD 1 .non) (ds16.getD 2 .non) q12)
      unfold l2_classes_of
      generalize ds16.getD 0 .non = t13_index
      generalize ds16.getD 1 .non = t14_ends
      generalize ds16.getD 2 .non = t15_edges
      unfold m2_classes_of
      refine db_let 9 sc_classes_of.nd rfl (.inl nl_classes_of_told) (de_callC (de_callT call_tupleF s_tuple nl_classes_of_tuple T.n_tuple bt_tuple (da_cons (de_frzQ (de_lc (p := .tp [.nm, .nm]) (is := [10, 11]) (own := [("field", 10), ("other", 11)]) (mt := fun (ds17 : List D) => (e2 opIx2 (W.pure v1_is_lively) (W.pure (ds17.getD 1 .non))).bind opTru) (me := fun (ds17 : List D) => eTup [W.pure (ds17.getD 0 .non), e2 opIx2 (W.pure q8.1) (W.pure (ds17.getD 1 .non))]) rfl sc_classes_of.nd (di_seq2 (de_var 8 rfl rfl (.inl nl_classes_of_edges))) (by show BlkOk ["automaton", "is_lively", "classes", "many", "numbers", "found", "index", "ends", "edges", "told", "field", "other"] ⟨_, _, _, _, _⟩ ⟨_, _, _, _, _⟩ [("field", 10), ("other", 11)]; exact ⟨rfl, by decide +kernel, by first | decide +kernel | (intro y hy z; exfalso; revert y; decide +kernel), by first | decide +kernel | (intro y hy z; exfalso; revert y; decide +kernel), by first | decide +kernel | (intro y hy z; exfalso; revert y; decide +kernel)⟩) rfl (fun _ _ _ _ _ => (dg_tp rfl (dgs_cons (dg_nm 10 sc_classes_of.nd rfl (.inl (rl_local (by decide +kernel))) (.inr (rl_local (by decide +kernel)))) (dgs_cons (dg_nm 11 sc_classes_of.nd rfl (.inl (rl_local (by decide +kernel))) (.inr (rl_local (by decide +kernel)))) dgs_nil)))) (fun _ _ _ _ _ ds17 => by show DTs _ _ [some v0_automaton, some v1_is_lively, some q8.1, some v9_many, some v10_numbers, some v11_found, some t13_index, some t14_ends, some t15_edges, none, some (ds17.getD 0 .non), some (ds17.getD 1 .non)] _ _; generalize ds17.getD 0 .non = t18_field; generalize ds17.getD 1 .non = t19_other; exact (dts_one (dt_val tru_ok s_tru (de_ix (ix_2 hu) s_ix2 (de_var 1 rfl rfl (.inr (.inl (rl_free (by decide +kernel) rfl nl_classes_of_is_lively)))) (de_var 11 rfl rfl (.inl (rl_local (by decide +kernel)))) (fun _ _ => rfl))))) (fun _ _ _ _ _ ds17 => by show DE _ _ [some v0_automaton, some v1_is_lively, some q8.1, some v9_many, some v10_numbers, some v11_found, some t13_index, some t14_ends, some t15_edges, none, some (ds17.getD 0 .non), some (ds17.getD 1 .non)] _ _; generalize ds17.getD 0 .non = t18_field; generalize ds17.getD 1 .non = t19_other; exact (de_tup (da_cons (de_var 10 rfl rfl (.inl (rl_local (by decide +kernel)))) (da_cons (de_ix (ix_2 hu) s_ix2 (de_var 2 rfl rfl (.inr (.inl (rl_free (by decide +kernel) rfl nl_classes_of_classes)))) (de_var 11 rfl rfl (.inl (rl_local (by decide +kernel)))) (fun _ _ => rfl)) da_nil)) (Nat.le_of_ble_eq_true rfl))))) da_nil)) fun _ _ _ q => tuple2_ok q) (fun v20_told => ?_) (hf := (.inr nl_classes_of_told))
      show DB _ _ _ _ [some v0_automaton, some v1_is_lively, some q8.1, some v9_many, some v10_numbers, some v11_found, some t13_index, some t14_ends, some t15_edges, some v20_told, none, none] _ _
      refine db_expr (de_meth PySem.F.plainAttrs_list PySem.F.slot_list_append PySem.F.type_list_append ty_list st_list mt_append s_append (de_var 5 rfl rfl (.inl nl_classes_of_found)) (da_cons (de_meth PySem.F.plainAttrs_dict PySem.F.slot_dict_setdefault PySem.F.type_dict_setdefault ty_dict5 st_dict5 (mt_setd hu) s_setd (de_var 4 rfl rfl (.inl nl_classes_of_numbers)) (da_cons (de_tup (da_cons (de_ix (ix_2 hu) s_ix2 (de_var 2 rfl rfl (.inr (.inl nl_classes_of_classes))) (de_var 6 rfl rfl (.inl nl_classes_of_index)) (fun _ _ => rfl)) (da_cons (de_var 9 rfl rfl (.inl nl_classes_of_told)) da_nil)) (Nat.le_of_ble_eq_true rfl)) (da_cons (de_callB c_len2 s_len2 nl_classes_of_len T.n_len bt_len (da_cons (de_var 4 rfl rfl (.inl nl_classes_of_numbers)) da_nil)) da_nil))) da_nil)) ?_
      exact db_nil (.s (.s (.s (.s (.s (.s (.n (.n (.n (.n (.s (.s .nil))))))))))))
    show DB _ _ _ _ [some v0_automaton, some v1_is_lively, some q8.1, some v9_many, some v10_numbers, some v11_found, none, none, none, none, none, none] _ _
    refine db_let 2 sc_classes_of.nd rfl (.inr nl_classes_of_classes) (de_var 5 rfl rfl (.inl nl_classes_of_found)) (fun v22_classes => ?_) (hf := (.inl rfl))
    show DB _ _ _ _ [some v0_automaton, some v1_is_lively, some v22_classes, some v9_many, some v10_numbers, some v11_found, none, none, none, none, none, none] _ _
    exact db_nil (.s (.s (.s (.s (.n (.n (.s (.s (.s (.s (.s (.s .nil))))))))))))
  show DB _ _ _ _ [some v0_automaton, some v1_is_lively, some q23.1, some q23.2, none, none, none, none, none, none, none, none] _ _
  exact db_ret (de_var 2 rfl rfl (.inr (.inl nl_classes_of_classes)))
theorem ok_first_of (T : Txt P w K mg Ad Fd base) : FnG P w K mg base CX0 1 (Ad 4) (Fd 4) (["automaton"] : List Str) (spF ⟨K, w, P, mg⟩ 1 (ap1 c_first_of)) := by
  refine fng_cast (fng_forget (fng_code (st := top 9) (N := ["automaton"]) (k := 0) (code := apB1 cb_first_of) (Jn := fun _ => List.replicate 1 none) (Jl := fun _ => []) T.f_first_of sc_first_of fun cdv A outer s H E ds hg hcd hr hl => ?_)) (apG1 cb_first_of)
  match ds, hl with
  | [v0_automaton], _ =>
  have hgd : (A.deeper (envOfC "first_of" (defScope (top 9)) s.heap.objs.size (Ad 4) cdv)).guards = some [] := hg
  have hu := hr.units
  replace hcd := code_kds hcd
  show DB _ _ _ _ [some v0_automaton] _ (cb_first_of v0_automaton)
  unfold cb_first_of
  exact db_ret (de_ifExp (dt_cmp (o_eq4 hu) s_eq4 (de_var 0 rfl rfl (.inl nl_first_of_automaton)) (de_tup da_nil (Nat.le_of_ble_eq_true rfl)) (nomark _)) (de_globE nl_first_of_NOWHERE T.cv_NOWHERE) de_int)
theorem ok_edges_at (T : Txt P w K mg Ad Fd base) : FnG P w K mg base CX0 1 (Ad 5) (Fd 5) (["automaton", "index"] : List Str) (spF ⟨K, w, P, mg⟩ 2 (ap2 c_edges_at)) := by
  refine fng_cast (fng_forget (fng_code (st := top 10) (N := ["automaton", "index"]) (k := 0) (code := apB2 cb_edges_at) (Jn := fun _ => List.replicate 2 none) (Jl := fun _ => []) T.f_edges_at sc_edges_at fun cdv A outer s H E ds hg hcd hr hl => ?_)) (apG2 cb_edges_at)
  match ds, hl with
  | [v0_automaton, v1_index], _ =>
  have hgd : (A.deeper (envOfC "edges_at" (defScope (top 10)) s.heap.objs.size (Ad 5) cdv)).guards = some [] := hg
  have hu := hr.units
  replace hcd := code_kds hcd
  show DB _ _ _ _ [some v0_automaton, some v1_index] _ (cb_edges_at v0_automaton v1_index)
  unfold cb_edges_at
  exact db_ret (de_ifExp (dt_cmp (o_eq4 hu) s_eq4 (de_var 1 rfl rfl (.inl nl_edges_at_index)) (de_globE nl_edges_at_NOWHERE T.cv_NOWHERE) (nomark _)) de_newDF (de_callCF (de_callT (call_dict4 rfl) s_dict4 nl_edges_at_dict T.n_dict bt_dict (da_cons (de_callCF (de_callT (call_list3 rfl) s_list3 nl_edges_at_list T.n_list bt_list (da_cons (de_ix (ix_2 hu) s_ix2 (de_ix (ix_2 hu) s_ix2 (de_var 0 rfl rfl (.inl nl_edges_at_automaton)) (de_var 1 rfl rfl (.inl nl_edges_at_index)) (fun _ _ => rfl)) de_int (fun _ _ => rfl)) da_nil)) fun _ _ _ q => listF3_ok q) da_nil)) fun _ _ _ q => dictF4_ok q))
theorem ok_ends_at (T : Txt P w K mg Ad Fd base) : FnG P w K mg base CX0 1 (Ad 6) (Fd 6) (["automaton", "index"] : List Str) (spF ⟨K, w, P, mg⟩ 2 (ap2 c_ends_at)) := by
  refine fng_cast (fng_forget (fng_code (st := top 11) (N := ["automaton", "index"]) (k := 0) (code := apB2 cb_ends_at) (Jn := fun _ => List.replicate 2 none) (Jl := fun _ => []) T.f_ends_at sc_ends_at fun cdv A outer s H E ds hg hcd hr hl => ?_)) (apG2 cb_ends_at)
  match ds, hl with
  | [v0_automaton, v1_index], _ =>
  have hgd : (A.deeper (envOfC "ends_at" (defScope (top 11)) s.heap.objs.size (Ad 6) cdv)).guards = some [] := hg
  have hu := hr.units
  replace hcd := code_kds hcd
  show DB _ _ _ _ [some v0_automaton, some v1_index] _ (cb_ends_at v0_automaton v1_index)
  unfold cb_ends_at
  exact db_ret (de_andT (de_cmp (o_ne4 hu) s_ne4 (de_var 1 rfl rfl (.inl nl_ends_at_index)) (de_globE nl_ends_at_NOWHERE T.cv_NOWHERE) (nomark _)) (de_one (de_ix (ix_2 hu) s_ix2 (de_ix (ix_2 hu) s_ix2 (de_var 0 rfl rfl (.inl nl_ends_at_automaton)) (de_var 1 rfl rfl (.inl nl_ends_at_index)) (fun _ _ => rfl)) de_int (fun _ _ => rfl))))
theorem ok_rooted (T : Txt P w K mg Ad Fd base) : FnG P w K mg base CX0 1 (Ad 8) (Fd 8) (["automaton", "index"] : List Str) (spF ⟨K, w, P, mg⟩ 2 (ap2 c_rooted)) := by
  refine fng_cast (fng_forget (fng_code (st := top 13) (N := ["automaton", "index", "later", "ends", "edges", "field", "other"]) (k := 0) (code := apB2 cb_rooted) (Jn := fun _ => List.replicate 7 none) (Jl := fun _ => []) T.f_rooted sc_rooted fun cdv A outer s H E ds hg hcd hr hl => ?_)) (apG2 cb_rooted)
  match ds, hl with
  | [v0_automaton, v1_index], _ =>
  have hgd : (A.deeper (envOfC "rooted" (defScope (top 13)) s.heap.objs.size (Ad 8) cdv)).guards = some [] := hg
  have hu := hr.units
  replace hcd := code_kds hcd
  show DB _ _ _ _ [some v0_automaton, some v1_index, none, none, none, none, none] _ (cb_rooted v0_automaton v1_index)
  unfold cb_rooted
  refine db_if (J1 := fun (q3 : Unit) => [some v0_automaton, some v1_index, none, none, none, none, none]) (dt_cmp (o_eq4 hu) s_eq4 (de_var 1 rfl rfl (.inl nl_rooted_index)) (de_globE nl_rooted_NOWHERE T.cv_NOWHERE) (nomark _)) ?_ ?_ (fun q3 => ?_)
  · exact db_ret (de_tup da_nil (Nat.le_of_ble_eq_true rfl))
  · exact db_nil (.s (.s (.s (.s (.s (.s (.s .nil)))))))
  unfold m2_rooted m1_rooted
  refine db_letLc (p := .tp [.nm, .nm]) (is := [3, 4]) (own := [("ends", 3), ("edges", 4)]) (mt := fun (ds4 : List D) => W.pure true) (me := fun (ds4 : List D) => eTup [W.pure (ds4.getD 0 .non), eCall bTuple2 [(eComp ((W.pure (ds4.getD 1 .non)).bind iSeq2) (fun d => uP (.tp [.nm, .nm]) d fun ds7 => m1_rooted (ds7.getD 0 .non) (ds7.getD 1 .non))).bind frzQ]]) 2 rfl sc_rooted.nd rfl nl_rooted_later (sw_true rfl nl_rooted_later rfl rfl) (di_seq2 (de_var 0 rfl rfl (.inl nl_rooted_automaton))) (by show BlkOk ["automaton", "index", "later", "ends", "edges", "field", "other"] ⟨_, _, _, _, _⟩ ⟨_, _, _, _, _⟩ [("ends", 3), ("edges", 4)]; exact ⟨rfl, by decide +kernel, by first | decide +kernel | (intro y hy z; exfalso; revert y; decide +kernel), by first | decide +kernel | (intro y hy z; exfalso; revert y; decide +kernel), by first | decide +kernel | (intro y hy z; exfalso; revert y; decide +kernel)⟩) rfl (fun _ _ _ _ _ => (dg_tp rfl (dgs_cons (dg_nm 3 sc_rooted.nd rfl (.inl (rl_local (by decide +kernel))) (.inr (rl_local (by decide +kernel)))) (dgs_cons (dg_nm 4 sc_rooted.nd rfl (.inl (rl_local (by decide +kernel))) (.inr (rl_local (by decide +kernel)))) dgs_nil)))) (fun _ _ _ _ _ ds4 => by show DTs _ _ [some v0_automaton, some v1_index, none, some (ds4.getD 0 .non), some (ds4.getD 1 .non), none, none] _ _; generalize ds4.getD 0 .non = t5_ends; generalize ds4.getD 1 .non = t6_edges; exact dts_nil) (fun _ _ _ _ _ ds4 => by show DE _ _ [some v0_automaton, some v1_index, none, some (ds4.getD 0 .non), some (ds4.getD 1 .non), none, none] _ _; generalize ds4.getD 0 .non = t5_ends; generalize ds4.getD 1 .non = t6_edges; exact (de_tup (da_cons (de_var 3 rfl rfl (.inl (rl_local (by decide +kernel)))) (da_cons (de_callC (de_callT call_tupleF s_tuple (rl_glob (by decide +kernel)) T.n_tuple bt_tuple (da_cons (de_frzQ (de_lc (p := .tp [.nm, .nm]) (is := [5, 6]) (own := [("field", 5), ("other", 6)]) (mt := fun (ds7 : List D) => W.pure true) (me := fun (ds7 : List D) => eTup [W.pure (ds7.getD 0 .non), e2 opAddF3 (W.pure (ds7.getD 1 .non)) (W.pure (.int 1))]) rfl sc_rooted.nd (di_seq2 (de_var 4 rfl rfl (.inl (rl_local (by decide +kernel))))) (by show BlkOk ["automaton", "index", "later", "ends", "edges", "field", "other"] ⟨_, _, _, _, _⟩ ⟨_, _, _, _, _⟩ [("field", 5), ("other", 6)]; exact ⟨rfl, by decide +kernel, by first | decide +kernel | (intro y hy z; exfalso; revert y; decide +kernel), by first | decide +kernel | (intro y hy z; exfalso; revert y; decide +kernel), by first | decide +kernel | (intro y hy z; exfalso; revert y; decide +kernel)⟩) rfl (fun _ _ _ _ _ => (dg_tp rfl (dgs_cons (dg_nm 5 sc_rooted.nd rfl (.inl (rl_local (by decide +kernel))) (.inr (rl_local (by decide +kernel)))) (dgs_cons (dg_nm 6 sc_rooted.nd rfl (.inl (rl_local (by decide +kernel))) (.inr (rl_local (by decide +kernel)))) dgs_nil)))) (fun _ _ _ _ _ ds7 => by show DTs _ _ [some v0_automaton, some v1_index, none, some t5_ends, some t6_edges, some (ds7.getD 0 .non), some (ds7.getD 1 .non)] _ _; generalize ds7.getD 0 .non = t8_field; generalize ds7.getD 1 .non = t9_other; exact dts_nil) (fun _ _ _ _ _ ds7 => by show DE _ _ [some v0_automaton, some v1_index, none, some t5_ends, some t6_edges, some (ds7.getD 0 .non), some (ds7.getD 1 .non)] _ _; generalize ds7.getD 0 .non = t8_field; generalize ds7.getD 1 .non = t9_other; exact (de_tup (da_cons (de_var 5 rfl rfl (.inl (rl_local (by decide +kernel)))) (da_cons (de_addF3 (de_var 6 rfl rfl (.inl (rl_local (by decide +kernel)))) de_int) da_nil)) (Nat.le_of_ble_eq_true rfl))))) da_nil)) fun _ _ _ q => tuple2_ok q) da_nil)) (Nat.le_of_ble_eq_true rfl))) (fun v10_later => ?_)
  show DB _ _ _ _ [some v0_automaton, some v1_index, some v10_later, none, none, none, none] _ _
  refine db_frzQ 2 rfl (fun v11_later => ?_)
  show DB _ _ _ _ [some v0_automaton, some v1_index, some v11_later, none, none, none, none] _ _
  exact db_ret (de_callC (de_callT call_tupleF s_tuple nl_rooted_tuple T.n_tuple bt_tuple (da_cons (de_addF3 (de_lstF (da_cons (de_ix (ix_2 hu) s_ix2 (de_var 2 rfl rfl (.inl nl_rooted_later)) (de_var 1 rfl rfl (.inl nl_rooted_index)) (fun _ _ => rfl)) da_nil) (Nat.le_of_ble_eq_true rfl)) (de_var 2 rfl rfl (.inl nl_rooted_later))) da_nil)) fun _ _ _ q => tuple2_ok q)
theorem ok_Demand_bool (T : Txt P w K mg Ad Fd base) : FnG P w K mg base CX0 1 (Ad 18) (Fd 18) (["self"] : List Str) (spF ⟨K, w, P, mg⟩ 1 (ap1 c_Demand_bool)) := by
  refine fng_cast (fng_forget (fng_code (st := meth 17 7) (N := ["self"]) (k := 0) (code := apB1 cb_Demand_bool) (Jn := fun _ => List.replicate 1 none) (Jl := fun _ => []) T.f_Demand_bool sc_Demand_bool fun cdv A outer s H E ds hg hcd hr hl => ?_)) (apG1 cb_Demand_bool)
  match ds, hl with
  | [v0_self], _ =>
  have hgd : (A.deeper (envOfC "Demand.__bool__" (defScope (meth 17 7)) s.heap.objs.size (Ad 18) cdv)).guards = some [] := hg
  have hu := hr.units
  replace hcd := code_kds hcd
  show DB _ _ _ _ [some v0_self] _ (cb_Demand_bool v0_self)
  unfold cb_Demand_bool
  exact db_ret (de_cmp op_gt s_gt (de_callB c_len2 s_len2 nl_Demand_bool_len T.n_len bt_len (da_cons (de_fld (de_var 0 rfl rfl (.inl nl_Demand_bool_self)) (fun n hn => by rw [List.mem_singleton.mp hn]; exact T.fl_Demand_automaton)) da_nil)) de_int (nomark _))
theorem ok_law_deck (T : Txt P w K mg Ad Fd base) : FnG P w K mg base CX0 1 (Ad 23) (Fd 23) (["_law_script"] : List Str) (spF ⟨K, w, P, mg⟩ 1 (ap1 c_law_deck)) := by
  refine fng_cast (fng_forget (fng_code (st := top 19) (N := ["_law_script", "_law_cells", "_law_mixing", "_law_cell"]) (k := 0) (code := apB1 cb_law_deck) (Jn := fun _ => List.replicate 4 none) (Jl := fun _ => []) T.f_law_deck sc_law_deck fun cdv A outer s H E ds hg hcd hr hl => ?_)) (apG1 cb_law_deck)
  match ds, hl with
  | [v0__law_script], _ =>
  have hgd : (A.deeper (envOfC "_law_deck" (defScope (top 19)) s.heap.objs.size (Ad 23) cdv)).guards = some [] := hg
  have hu := hr.units
  replace hcd := code_kds hcd
  show DB _ _ _ _ [some v0__law_script, none, none, none] _ (cb_law_deck v0__law_script)
  unfold cb_law_deck
  refine db_par 1 2 rfl sc_law_deck.nd rfl rfl (by decide) nl_law_deck__law_cells nl_law_deck__law_mixing (da_cons (de_callCF (de_callT (call_list3 rfl) s_list3 nl_law_deck_list T.n_list bt_list (da_cons (de_slF (de_var 0 rfl rfl (.inl nl_law_deck__law_script)) do_none (do_some de_int)) da_nil)) fun _ _ _ q => listF3_ok q) (da_cons de_int da_nil)) (fun v2_cells v3_mixing => ?_) (by with_unfolding_all rfl)
  show DB _ _ _ _ [some v0__law_script, some v2_cells, some v3_mixing, none] _ _
  refine db_for (Jh := fun (q4 : D) => [some v0__law_script, some v2_cells, some q4, none]) (p := .nm) (is := [3]) (b := fun ds6 c => l1_law_deck (ds6.getD 0 .non) c) (c0 := v3_mixing) PassesOwn.never rfl (di_seq2 (de_var 1 rfl rfl (.inl nl_law_deck__law_cells))) (dg_nm 3 sc_law_deck.nd rfl (.inl nl_law_deck__law_cell) (.inr nl_law_deck__law_cell)) (fun ds6 q4 => ?_) (.s (.s (.s (.s .nil)))) (fun q8 => ?_)
  · show DB _ _ _ _ [some v0__law_script, some v2_cells, some q4, some (ds6.getD 0 .non)] _ (l1_law_deck (ds6.getD 0 .non) q4)
    unfold l1_law_deck
    generalize ds6.getD 0 .non = t5_cell
    refine db_let 2 sc_law_deck.nd rfl (.inl nl_law_deck__law_mixing) (de_bin op_mod s_mod (de_addF3 (de_addF3 (de_mulF3 (de_var 2 rfl rfl (.inl nl_law_deck__law_mixing)) de_int) (de_bin op_mod s_mod (de_callT call_int1 s_int nl_law_deck_int T.n_int bt_int (da_cons (de_var 3 rfl rfl (.inl nl_law_deck__law_cell)) da_nil)) de_int)) de_int) de_int) (fun v7_mixing => ?_) (hf := (.inr nl_law_deck__law_mixing))
    show DB _ _ _ _ [some v0__law_script, some v2_cells, some v7_mixing, some t5_cell] _ _
    exact db_nil (.s (.s (.s (.n .nil))))
  show DB _ _ _ _ [some v0__law_script, some v2_cells, some q8, none] _ _
  exact db_ret (de_disp (dps_cons de_str (de_rev (de_var 1 rfl rfl (.inl nl_law_deck__law_cells))) (dps_cons de_str (de_var 2 rfl rfl (.inl nl_law_deck__law_mixing)) (dps_cons de_str de_int dps_nil))) rfl rfl (by simp) (by decide))
theorem ok_law_draw (T : Txt P w K mg Ad Fd base) : FnG P w K mg base CX0 1 (Ad 24) (Fd 24) (["_law_deck_here", "_law_many"] : List Str) (spF ⟨K, w, P, mg⟩ 2 (ap2 c_law_draw)) := by
  refine fng_cast (fng_forget (fng_code (st := top 20) (N := ["_law_deck_here", "_law_many", "_law_turn", "_law_cell", "_law_mixed"]) (k := 0) (code := apB2 cb_law_draw) (Jn := fun _ => List.replicate 5 none) (Jl := fun _ => []) T.f_law_draw sc_law_draw fun cdv A outer s H E ds hg hcd hr hl => ?_)) (apG2 cb_law_draw)
  match ds, hl with
  | [v0__law_deck_here, v1__law_many], _ =>
  have hgd : (A.deeper (envOfC "_law_draw" (defScope (top 20)) s.heap.objs.size (Ad 24) cdv)).guards = some [] := hg
  have hu := hr.units
  replace hcd := code_kds hcd
  show DB _ _ _ _ [some v0__law_deck_here, some v1__law_many, none, none, none] _ (cb_law_draw v0__law_deck_here v1__law_many)
  unfold cb_law_draw
  refine db_par 2 3 rfl sc_law_draw.nd rfl rfl (by decide) nl_law_draw__law_turn nl_law_draw__law_cell (da_cons (de_addF3 (de_ix (ix_2 hu) s_ix2 (de_var 0 rfl rfl (.inl nl_law_draw__law_deck_here)) de_str (fun _ _ => rfl)) de_int) (da_cons (de_ix (ix_2 hu) s_ix2 (de_var 0 rfl rfl (.inl nl_law_draw__law_deck_here)) de_str (fun _ _ => rfl)) da_nil)) (fun v3_turn v4_cell => ?_) (by with_unfolding_all rfl)
  show DB _ _ _ _ [some v0__law_deck_here, some v1__law_many, some v3_turn, some v4_cell, none] _ _
  refine db_sub (set_2 hu) s_set2 (de_var 2 rfl rfl (.inl nl_law_draw__law_turn)) (de_var 0 rfl rfl (.inl nl_law_draw__law_deck_here)) de_str ?_
  refine db_if (J1 := fun (q5 : D) => [some v0__law_deck_here, some v1__law_many, some v3_turn, some q5, none]) (dt_cmp (o_ne4 hu) s_ne5 (de_ix (ix_2 hu) s_ix2 (de_var 0 rfl rfl (.inl nl_law_draw__law_deck_here)) de_str (fun _ _ => rfl)) (de_lstF da_nil (Nat.le_of_ble_eq_true rfl)) (nomark _)) ?_ ?_ (fun q5 => ?_)
  · refine db_let 3 sc_law_draw.nd rfl (.inl nl_law_draw__law_cell) (de_meth0 PySem.F.plainAttrs_list PySem.F.slot_list_pop PySem.F.type_list_pop ty_list st_list mt_pop s_pop (de_ix (ix_2 hu) s_ix2 (de_var 0 rfl rfl (.inl nl_law_draw__law_deck_here)) de_str (fun _ _ => rfl))) (fun v6_cell => ?_) (hf := (.inr nl_law_draw__law_cell))
    show DB _ _ _ _ [some v0__law_deck_here, some v1__law_many, some v3_turn, some v6_cell, none] _ _
    refine db_if (J1 := fun (q7 : Unit) => [some v0__law_deck_here, some v1__law_many, some v3_turn, some v6_cell, none]) (dt_cmp op_ge s_ge (de_var 3 rfl rfl (.inl nl_law_draw__law_cell)) (de_bin op_pow s_pow de_int de_int) (nomark _)) ?_ ?_ (fun q7 => ?_)
    · refine db_expr (de_meth PySem.F.plainAttrs_list PySem.F.slot_list_append PySem.F.type_list_append ty_list st_list mt_append s_append (de_ix (ix_2 hu) s_ix2 (de_var 0 rfl rfl (.inl nl_law_draw__law_deck_here)) de_str (fun _ _ => rfl)) (da_cons (de_bin op_fdiv s_fdiv (de_var 3 rfl rfl (.inl nl_law_draw__law_cell)) (de_var 1 rfl rfl (.inl nl_law_draw__law_many))) da_nil)) ?_
      exact db_ret (de_bin op_mod s_mod (de_callT call_int1 s_int nl_law_draw_int T.n_int bt_int (da_cons (de_var 3 rfl rfl (.inl nl_law_draw__law_cell)) da_nil)) (de_var 1 rfl rfl (.inl nl_law_draw__law_many)))
    · exact db_nil (.s (.s (.s (.s (.s .nil)))))
    refine db_let 3 sc_law_draw.nd rfl (.inl nl_law_draw__law_cell) (de_addF3 (de_var 3 rfl rfl (.inl nl_law_draw__law_cell)) (de_ix (ix_2 hu) s_ix2 (de_var 0 rfl rfl (.inl nl_law_draw__law_deck_here)) de_str (fun _ _ => rfl))) (fun v8_cell => ?_) (hf := (.inr nl_law_draw__law_cell))
    show DB _ _ _ _ [some v0__law_deck_here, some v1__law_many, some v3_turn, some v8_cell, none] _ _
    exact db_nil (.s (.s (.s (.s (.s .nil)))))
  · exact db_nil (.s (.s (.s (.s (.s .nil)))))
  refine db_let 4 sc_law_draw.nd rfl (.inl nl_law_draw__law_mixed) (de_bin op_mod s_mod (de_mulF3 (de_addF3 (de_addF3 (de_bin op_mod s_mod (de_callT call_int1 s_int nl_law_draw_int T.n_int bt_int (da_cons (de_var 3 rfl rfl (.inl nl_law_draw__law_cell)) da_nil)) de_int) (de_mulF3 (de_mulF3 de_int (de_var 2 rfl rfl (.inl nl_law_draw__law_turn))) (de_var 2 rfl rfl (.inl nl_law_draw__law_turn)))) de_int) de_int) de_int) (fun v9_mixed => ?_) (hf := (.inr nl_law_draw__law_mixed))
  show DB _ _ _ _ [some v0__law_deck_here, some v1__law_many, some v3_turn, some q5, some v9_mixed] _ _
  refine db_let 4 sc_law_draw.nd rfl (.inl nl_law_draw__law_mixed) (de_bin op_mod s_mod (de_addF3 (de_addF3 (de_mulF3 (de_var 4 rfl rfl (.inl nl_law_draw__law_mixed)) (de_var 4 rfl rfl (.inl nl_law_draw__law_mixed))) (de_mulF3 de_int (de_var 2 rfl rfl (.inl nl_law_draw__law_turn)))) de_int) de_int) (fun v10_mixed => ?_) (hf := (.inr nl_law_draw__law_mixed))
  show DB _ _ _ _ [some v0__law_deck_here, some v1__law_many, some v3_turn, some q5, some v10_mixed] _ _
  exact db_ret (de_bin op_mod s_mod (de_bin op_fdiv s_fdiv (de_bin op_mod s_mod (de_mulF3 (de_var 4 rfl rfl (.inl nl_law_draw__law_mixed)) de_int) de_int) de_int) (de_var 1 rfl rfl (.inl nl_law_draw__law_many)))
theorem ok_law_alive (T : Txt P w K mg Ad Fd base) : FnG P w K mg base CX0 1 (Ad 28) (Fd 28) (["_law_states"] : List Str) (spF ⟨K, w, P, mg⟩ 1 (ap1 c_law_alive)) := by
  refine fng_cast (fng_forget (fng_code (st := top 24) (N := ["_law_states", "_law_found", "_law_turn", "_law_k", "_law_ends", "_law_pairs", "_law_name", "_law_to_here"]) (k := 0) (code := apB1 cb_law_alive) (Jn := fun _ => List.replicate 8 none) (Jl := fun _ => []) T.f_law_alive sc_law_alive fun cdv A outer s H E ds hg hcd hr hl => ?_)) (apG1 cb_law_alive)
  match ds, hl with
  | [v0__law_states], _ =>
  have hgd : (A.deeper (envOfC "_law_alive" (defScope (top 24)) s.heap.objs.size (Ad 28) cdv)).guards = some [] := hg
  have hu := hr.units
  replace hcd := code_kds hcd
  show DB _ _ _ _ [some v0__law_states, none, none, none, none, none, none, none] _ (cb_law_alive v0__law_states)
  unfold cb_law_alive
  unfold m1_law_alive
  refine db_let 1 sc_law_alive.nd rfl (.inr nl_law_alive__law_found) (de_lc (p := .tp [.nm, .nm]) (is := [4, 5]) (own := [("_law_ends", 4), ("_law_pairs", 5)]) (mt := fun (ds2 : List D) => W.pure true) (me := fun (ds2 : List D) => W.pure (ds2.getD 0 .non)) rfl sc_law_alive.nd (di_seq2 (de_var 0 rfl rfl (.inl nl_law_alive__law_states))) (by show BlkOk ["_law_states", "_law_found", "_law_turn", "_law_k", "_law_ends", "_law_pairs", "_law_name", "_law_to_here"] ⟨_, _, _, _, _⟩ ⟨_, _, _, _, _⟩ [("_law_ends", 4), ("_law_pairs", 5)]; exact ⟨rfl, by decide +kernel, by first | decide +kernel | (intro y hy z; exfalso; revert y; decide +kernel), by first | decide +kernel | (intro y hy z; exfalso; revert y; decide +kernel), by first | decide +kernel | (intro y hy z; exfalso; revert y; decide +kernel)⟩) rfl (fun _ _ _ _ _ => (dg_tp rfl (dgs_cons (dg_nm 4 sc_law_alive.nd rfl (.inl (rl_local (by decide +kernel))) (.inr (rl_local (by decide +kernel)))) (dgs_cons (dg_nm 5 sc_law_alive.nd rfl (.inl (rl_local (by decide +kernel))) (.inr (rl_local (by decide +kernel)))) dgs_nil)))) (fun _ _ _ _ _ ds2 => by show DTs _ _ [some v0__law_states, none, none, none, some (ds2.getD 0 .non), some (ds2.getD 1 .non), none, none] _ _; generalize ds2.getD 0 .non = t3_ends; generalize ds2.getD 1 .non = t4_pairs; exact dts_nil) (fun _ _ _ _ _ ds2 => by show DE _ _ [some v0__law_states, none, none, none, some (ds2.getD 0 .non), some (ds2.getD 1 .non), none, none] _ _; generalize ds2.getD 0 .non = t3_ends; generalize ds2.getD 1 .non = t4_pairs; exact (de_var 4 rfl rfl (.inl (rl_local (by decide +kernel)))))) (fun v5_found => ?_) (hf := (.inl rfl))
  show DB _ _ _ _ [some v0__law_states, some v5_found, none, none, none, none, none, none] _ _
  refine db_for (Jh := fun (q6 : Unit) => [some v0__law_states, some v5_found, none, none, none, none, none, none]) (p := .nm) (is := [2]) (b := fun ds8 c => l1_law_alive v0__law_states v5_found (ds8.getD 0 .non) c) (c0 := ()) PassesOwn.never rfl (di_range1 nl_law_alive_range T.n_range (da_cons (de_callB c_len2 s_len2 nl_law_alive_len T.n_len bt_len (da_cons (de_var 0 rfl rfl (.inl nl_law_alive__law_states)) da_nil)) da_nil)) (dg_nm 2 sc_law_alive.nd rfl (.inl nl_law_alive__law_turn) (.inr nl_law_alive__law_turn)) (fun ds8 q6 => ?_) (.s (.s (.s (.s (.s (.s (.s (.s .nil)))))))) (fun q16 => ?_)
  · show DB _ _ _ _ [some v0__law_states, some v5_found, some (ds8.getD 0 .non), none, none, none, none, none] _ (l1_law_alive v0__law_states v5_found (ds8.getD 0 .non) q6)
    unfold l1_law_alive
    generalize ds8.getD 0 .non = t7_turn
    refine db_for (Jh := fun (q9 : Unit) => [some v0__law_states, some v5_found, some t7_turn, none, none, none, none, none]) (p := .nm) (is := [3]) (b := fun ds11 c => l2_law_alive v5_found v0__law_states (ds11.getD 0 .non) c) (c0 := ()) PassesOwn.never rfl (di_range1 nl_law_alive_range T.n_range (da_cons (de_callB c_len2 s_len2 nl_law_alive_len T.n_len bt_len (da_cons (de_var 0 rfl rfl (.inl nl_law_alive__law_states)) da_nil)) da_nil)) (dg_nm 3 sc_law_alive.nd rfl (.inl nl_law_alive__law_k) (.inr nl_law_alive__law_k)) (fun ds11 q9 => ?_) (.s (.s (.s (.s (.s (.s (.s (.s .nil)))))))) (fun q15 => ?_)
    · show DB _ _ _ _ [some v0__law_states, some v5_found, some t7_turn, some (ds11.getD 0 .non), none, none, none, none] _ (l2_law_alive v5_found v0__law_states (ds11.getD 0 .non) q9)
      unfold l2_law_alive
      generalize ds11.getD 0 .non = t10_k
      unfold m2_law_alive
      refine db_sub (set_2 hu) s_set2 (de_orT (de_ix (ix_2 hu) s_ix2 (de_var 1 rfl rfl (.inr (.inl nl_law_alive__law_found))) (de_var 3 rfl rfl (.inl nl_law_alive__law_k)) (fun _ _ => rfl)) (de_one (de_cmp (o_ne4 hu) s_ne5 (de_frzQ (de_lc (p := .tp [.nm, .nm]) (is := [6, 7]) (own := [("_law_name", 6), ("_law_to_here", 7)]) (mt := fun (ds12 : List D) => (e2 opIx2 (W.pure v5_found) (W.pure (ds12.getD 1 .non))).bind opTru) (me := fun (ds12 : List D) => W.pure (.int 1)) rfl sc_law_alive.nd (di_seq2 (de_ix (ix_2 hu) s_ix2 (de_ix (ix_2 hu) s_ix2 (de_var 0 rfl rfl (.inl nl_law_alive__law_states)) (de_var 3 rfl rfl (.inl nl_law_alive__law_k)) (fun _ _ => rfl)) de_int (fun _ _ => rfl))) (by show BlkOk ["_law_states", "_law_found", "_law_turn", "_law_k", "_law_ends", "_law_pairs", "_law_name", "_law_to_here"] ⟨_, _, _, _, _⟩ ⟨_, _, _, _, _⟩ [("_law_name", 6), ("_law_to_here", 7)]; exact ⟨rfl, by decide +kernel, by first | decide +kernel | (intro y hy z; exfalso; revert y; decide +kernel), by first | decide +kernel | (intro y hy z; exfalso; revert y; decide +kernel), by first | decide +kernel | (intro y hy z; exfalso; revert y; decide +kernel)⟩) rfl (fun _ _ _ _ _ => (dg_tp rfl (dgs_cons (dg_nm 6 sc_law_alive.nd rfl (.inl (rl_local (by decide +kernel))) (.inr (rl_local (by decide +kernel)))) (dgs_cons (dg_nm 7 sc_law_alive.nd rfl (.inl (rl_local (by decide +kernel))) (.inr (rl_local (by decide +kernel)))) dgs_nil)))) (fun _ _ _ _ _ ds12 => by show DTs _ _ [some v0__law_states, some v5_found, some t7_turn, some t10_k, none, none, some (ds12.getD 0 .non), some (ds12.getD 1 .non)] _ _; generalize ds12.getD 0 .non = t13_name; generalize ds12.getD 1 .non = t14_to_here; exact (dts_one (dt_val tru_ok s_tru (de_ix (ix_2 hu) s_ix2 (de_var 1 rfl rfl (.inr (.inl (rl_free (by decide +kernel) rfl nl_law_alive__law_found)))) (de_var 7 rfl rfl (.inl (rl_local (by decide +kernel)))) (fun _ _ => rfl))))) (fun _ _ _ _ _ ds12 => by show DE _ _ [some v0__law_states, some v5_found, some t7_turn, some t10_k, none, none, some (ds12.getD 0 .non), some (ds12.getD 1 .non)] _ _; generalize ds12.getD 0 .non = t13_name; generalize ds12.getD 1 .non = t14_to_here; exact de_int))) (de_lstF da_nil (Nat.le_of_ble_eq_true rfl)) (nomark _)))) (de_var 1 rfl rfl (.inr (.inl nl_law_alive__law_found))) (de_var 3 rfl rfl (.inl nl_law_alive__law_k)) ?_
      exact db_nil (.s (.s (.s (.n (.s (.s (.s (.s .nil))))))))
    show DB _ _ _ _ [some v0__law_states, some v5_found, some t7_turn, none, none, none, none, none] _ _
    exact db_nil (.s (.s (.n (.s (.s (.s (.s (.s .nil))))))))
  show DB _ _ _ _ [some v0__law_states, some v5_found, none, none, none, none, none, none] _ _
  refine db_frzQ 1 rfl (fun v17_found => ?_)
  show DB _ _ _ _ [some v0__law_states, some v17_found, none, none, none, none, none, none] _ _
  exact db_ret (de_var 1 rfl rfl (.inr (.inl nl_law_alive__law_found)))
theorem ok_law_to (T : Txt P w K mg Ad Fd base) : FnG P w K mg base CX0 1 (Ad 29) (Fd 29) (["_law_states", "_law_at", "_law_name"] : List Str) (spF ⟨K, w, P, mg⟩ 3 (ap3 c_law_to)) := by
  refine fng_cast (fng_forget (fng_code (st := top 25) (N := ["_law_states", "_law_at", "_law_name", "_law_found", "_law_one", "_law_to_here"]) (k := 0) (code := apB3 cb_law_to) (Jn := fun _ => List.replicate 6 none) (Jl := fun _ => []) T.f_law_to sc_law_to fun cdv A outer s H E ds hg hcd hr hl => ?_)) (apG3 cb_law_to)
  match ds, hl with
  | [v0__law_states, v1__law_at, v2__law_name], _ =>
  have hgd : (A.deeper (envOfC "_law_to" (defScope (top 25)) s.heap.objs.size (Ad 29) cdv)).guards = some [] := hg
  have hu := hr.units
  replace hcd := code_kds hcd
  show DB _ _ _ _ [some v0__law_states, some v1__law_at, some v2__law_name, none, none, none] _ (cb_law_to v0__law_states v1__law_at v2__law_name)
  unfold cb_law_to
  unfold m1_law_to
  refine db_let 3 sc_law_to.nd rfl (.inl nl_law_to__law_found) (de_ifExp (dt_cmp op_ge s_ge (de_var 1 rfl rfl (.inl nl_law_to__law_at)) de_int (nomark _)) (de_frzQ (de_lc (p := .tp [.nm, .nm]) (is := [4, 5]) (own := [("_law_one", 4), ("_law_to_here", 5)]) (mt := fun (ds4 : List D) => c2 opEq4 (W.pure (ds4.getD 0 .non)) (W.pure v2__law_name)) (me := fun (ds4 : List D) => W.pure (ds4.getD 1 .non)) rfl sc_law_to.nd (di_seq2 (de_ix (ix_2 hu) s_ix2 (de_ix (ix_2 hu) s_ix2 (de_var 0 rfl rfl (.inl nl_law_to__law_states)) (de_var 1 rfl rfl (.inl nl_law_to__law_at)) (fun _ _ => rfl)) de_int (fun _ _ => rfl))) (by show BlkOk ["_law_states", "_law_at", "_law_name", "_law_found", "_law_one", "_law_to_here"] ⟨_, _, _, _, _⟩ ⟨_, _, _, _, _⟩ [("_law_one", 4), ("_law_to_here", 5)]; exact ⟨rfl, by decide +kernel, by first | decide +kernel | (intro y hy z; exfalso; revert y; decide +kernel), by first | decide +kernel | (intro y hy z; exfalso; revert y; decide +kernel), by first | decide +kernel | (intro y hy z; exfalso; revert y; decide +kernel)⟩) rfl (fun _ _ _ _ _ => (dg_tp rfl (dgs_cons (dg_nm 4 sc_law_to.nd rfl (.inl (rl_local (by decide +kernel))) (.inr (rl_local (by decide +kernel)))) (dgs_cons (dg_nm 5 sc_law_to.nd rfl (.inl (rl_local (by decide +kernel))) (.inr (rl_local (by decide +kernel)))) dgs_nil)))) (fun _ _ _ _ _ ds4 => by show DTs _ _ [some v0__law_states, some v1__law_at, some v2__law_name, none, some (ds4.getD 0 .non), some (ds4.getD 1 .non)] _ _; generalize ds4.getD 0 .non = t5_one; generalize ds4.getD 1 .non = t6_to_here; exact (dts_one (dt_cmp (o_eq4 hu) s_eq4 (de_var 4 rfl rfl (.inl (rl_local (by decide +kernel)))) (de_var 2 rfl rfl (.inr (.inl (rl_free (by decide +kernel) rfl nl_law_to__law_name)))) (nomark _)))) (fun _ _ _ _ _ ds4 => by show DE _ _ [some v0__law_states, some v1__law_at, some v2__law_name, none, some (ds4.getD 0 .non), some (ds4.getD 1 .non)] _ _; generalize ds4.getD 0 .non = t5_one; generalize ds4.getD 1 .non = t6_to_here; exact (de_var 5 rfl rfl (.inl (rl_local (by decide +kernel))))))) (de_lstF da_nil (Nat.le_of_ble_eq_true rfl))) (fun v7_found => ?_) (hf := (.inr nl_law_to__law_found))
  show DB _ _ _ _ [some v0__law_states, some v1__law_at, some v2__law_name, some v7_found, none, none] _ _
  exact db_ret (de_ix (ix_2 hu) s_ix2 (de_addF3 (de_var 3 rfl rfl (.inl nl_law_to__law_found)) (de_lstF (da_cons (de_un un_neg s_neg de_int) da_nil) (Nat.le_of_ble_eq_true rfl))) de_int (fun _ _ => rfl))
theorem ok_least (T : Txt P w K mg Ad Fd base) : FnG P w K mg base CX0 2 (Ad 3) (Fd 3) (["automaton"] : List Str) (spF ⟨K, w, P, mg⟩ 1 (ap1 c_least)) := by
  refine fng_cast (fng_forget (fng_code (st := top 8) (N := ["automaton", "is_lively", "classes", "numbers", "order", "found", "ends", "edges", "pairs", "field", "other"]) (k := 1) (code := apB1 cb_least) (Jn := fun _ => List.replicate 11 none) (Jl := fun _ => []) T.f_least sc_least fun cdv A outer s H E ds hg hcd hr hl => ?_)) (apG1 cb_least)
  match ds, hl with
  | [v0_automaton], _ =>
  have hgd : (A.deeper (envOfC "least" (defScope (top 8)) s.heap.objs.size (Ad 3) cdv)).guards = some [] := hg
  have hu := hr.units
  replace hcd := code_kds hcd
  show DB _ _ _ _ [some v0_automaton, none, none, none, none, none, none, none, none, none, none] _ (cb_least v0_automaton)
  unfold cb_least
  refine db_let 1 sc_least.nd rfl (.inl nl_least_is_lively) (de_callG (ok_lively_states T) hgd (hr.mono (by decide)) nl_least_lively_states T.g_lively_states T.f_lively_states.kp T.b_lively_states (da_cons (de_var 0 rfl rfl (.inl nl_least_automaton)) da_nil)) (fun v2_is_lively => ?_) (hf := (.inr nl_least_is_lively))
  show DB _ _ _ _ [some v0_automaton, some v2_is_lively, none, none, none, none, none, none, none, none, none] _ _
  refine db_if (J1 := fun (q3 : Unit) => [some v0_automaton, some v2_is_lively, none, none, none, none, none, none, none, none, none]) (DW.dt (dw_or (dt_cmp (o_eq4 hu) s_eq4 (de_var 0 rfl rfl (.inl nl_least_automaton)) (de_tup da_nil (Nat.le_of_ble_eq_true rfl)) (nomark _)) (dw_one (dt_not (dt_val tru_ok s_tru (de_ix (ix_2 hu) s_ix2 (de_var 1 rfl rfl (.inl nl_least_is_lively)) de_int (fun _ _ => rfl))))))) ?_ ?_ (fun q3 => ?_)
  · exact db_ret (de_tup da_nil (Nat.le_of_ble_eq_true rfl))
  · exact db_nil (.s (.s (.s (.s (.s (.s (.s (.s (.s (.s (.s .nil)))))))))))
  refine db_let 2 sc_least.nd rfl (.inl nl_least_classes) (de_callG (ok_classes_of T) hgd (hr.mono (by decide)) nl_least_classes_of T.g_classes_of T.f_classes_of.kp T.b_classes_of (da_cons (de_var 0 rfl rfl (.inl nl_least_automaton)) (da_cons (de_var 1 rfl rfl (.inl nl_least_is_lively)) da_nil))) (fun v4_classes => ?_) (hf := (.inr nl_least_classes))
  show DB _ _ _ _ [some v0_automaton, some v2_is_lively, some v4_classes, none, none, none, none, none, none, none, none] _ _
  refine db_let 3 sc_least.nd rfl (.inl nl_least_numbers) (de_disp (dps_cons (de_ix (ix_2 hu) s_ix2 (de_var 2 rfl rfl (.inl nl_least_classes)) de_int (fun _ _ => rfl)) de_int dps_nil) rfl rfl (by simp) (by decide)) (fun v5_numbers => ?_) (hf := (.inr nl_least_numbers))
  show DB _ _ _ _ [some v0_automaton, some v2_is_lively, some v4_classes, some v5_numbers, none, none, none, none, none, none, none] _ _
  refine db_let 4 sc_least.nd rfl (.inl nl_least_order) (de_lst (da_cons de_int da_nil) (Nat.le_of_ble_eq_true rfl)) (fun v6_order => ?_) (hf := (.inr nl_least_order))
  show DB _ _ _ _ [some v0_automaton, some v2_is_lively, some v4_classes, some v5_numbers, some v6_order, none, none, none, none, none, none] _ _
  refine db_let 5 sc_least.nd rfl (.inl nl_least_found) (de_lst da_nil (Nat.le_of_ble_eq_true rfl)) (fun v7_found => ?_) (hf := (.inr nl_least_found))
  show DB _ _ _ _ [some v0_automaton, some v2_is_lively, some v4_classes, some v5_numbers, some v6_order, some v7_found, none, none, none, none, none] _ _
  refine db_while (Jh := fun (q8 : Unit) => [some v0_automaton, some v2_is_lively, some v4_classes, some v5_numbers, some v6_order, some v7_found, none, none, none, none, none]) (t := fun q8 => c2 opLt (eCall bLen2 [W.pure v7_found]) (eCall bLen2 [W.pure v6_order])) (b := fun c => l1_least v0_automaton v6_order v7_found v2_is_lively v4_classes v5_numbers c) (c0 := ()) PassesOwn.never (fun q8 => ?_) (fun q8 => ?_) (.s (.s (.s (.s (.s (.s (.s (.s (.s (.s (.s .nil))))))))))) (fun q19 => ?_)
  · exact (dt_cmp o_lt s_lt (de_callB c_len2 s_len2 nl_least_len T.n_len bt_len (da_cons (de_var 5 rfl rfl (.inl nl_least_found)) da_nil)) (de_callB c_len2 s_len2 nl_least_len T.n_len bt_len (da_cons (de_var 4 rfl rfl (.inl nl_least_order)) da_nil)) (nomark _))
  · show DB _ _ _ _ [some v0_automaton, some v2_is_lively, some v4_classes, some v5_numbers, some v6_order, some v7_found, none, none, none, none, none] _ (l1_least v0_automaton v6_order v7_found v2_is_lively v4_classes v5_numbers q8)
    unfold l1_least
    refine db_asg (p := .tp [.nm, .nm]) (is := [6, 7]) (dg_tp rfl (dgs_cons (dg_nm 6 sc_least.nd rfl (.inl nl_least_ends) (.inr nl_least_ends)) (dgs_cons (dg_nm 7 sc_least.nd rfl (.inl nl_least_edges) (.inr nl_least_edges)) dgs_nil))) (de_ix (ix_2 hu) s_ix2 (de_var 0 rfl rfl (.inl nl_least_automaton)) (de_ix (ix_2 hu) s_ix2 (de_var 4 rfl rfl (.inl nl_least_order)) (de_callB c_len2 s_len2 nl_least_len T.n_len bt_len (da_cons (de_var 5 rfl rfl (.inl nl_least_found)) da_nil)) (fun _ _ => rfl)) (fun _ _ => rfl)) (fun ds9 => ?_)
    show DB _ _ _ _ [some v0_automaton, some v2_is_lively, some v4_classes, some v5_numbers, some v6_order, some v7_found, some (ds9.getD 0 .non), some (ds9.getD 1 .non), none, none, none] _ _
    generalize ds9.getD 0 .non = v10_ends
    generalize ds9.getD 1 .non = v11_edges
    refine db_let 8 sc_least.nd rfl (.inl nl_least_pairs) (de_lst da_nil (Nat.le_of_ble_eq_true rfl)) (fun v12_pairs => ?_) (hf := (.inr nl_least_pairs))
    show DB _ _ _ _ [some v0_automaton, some v2_is_lively, some v4_classes, some v5_numbers, some v6_order, some v7_found, some v10_ends, some v11_edges, some v12_pairs, none, none] _ _
    refine db_for (Jh := fun (q13 : Unit) => [some v0_automaton, some v2_is_lively, some v4_classes, some v5_numbers, some v6_order, some v7_found, some v10_ends, some v11_edges, some v12_pairs, none, none]) (p := .tp [.nm, .nm]) (is := [9, 10]) (b := fun ds16 c => l2_least v2_is_lively v4_classes v5_numbers v6_order v12_pairs (ds16.getD 0 .non) (ds16.getD 1 .non) c) (c0 := ()) PassesOwn.never rfl (di_seq2 (de_var 7 rfl rfl (.inl nl_least_edges))) (dg_tp rfl (dgs_cons (dg_nm 9 sc_least.nd rfl (.inl nl_least_field) (.inr nl_least_field)) (dgs_cons (dg_nm 10 sc_least.nd rfl (.inl nl_least_other) (.inr nl_least_other)) dgs_nil))) (fun ds16 q13 => ?_) (.s (.s (.s (.s (.s (.s (.s (.s (.s (.s (.s .nil))))))))))) (fun q18 => ?_)
    · show DB _ _ _ _ [some v0_automaton, some v2_is_lively, some v4_classes, some v5_numbers, some v6_order, some v7_found, some v10_ends, some v11_edges, some v12_pairs, some (ds16.getD 0 .non), some (ds16.getD 1 .non)] _ (l2_least v2_is_lively v4_classes v5_numbers v6_order v12_pairs (ds16.getD 0 .non) (ds16.getD 1 .non) q13)
      unfold l2_least
      generalize ds16.getD 0 .non = t14_field
      generalize ds16.getD 1 .non = t15_other
      refine db_ifL (dt_val tru_ok s_tru (de_ix (ix_2 hu) s_ix2 (de_var 1 rfl rfl (.inl nl_least_is_lively)) (de_var 10 rfl rfl (.inl nl_least_other)) (fun _ _ => rfl))) ?_ ?_
      · refine db_if (J1 := fun (q17 : Unit) => [some v0_automaton, some v2_is_lively, some v4_classes, some v5_numbers, some v6_order, some v7_found, some v10_ends, some v11_edges, some v12_pairs, some t14_field, some t15_other]) (dt_cmp (o_nin2 hu) s_nin2 (de_ix (ix_2 hu) s_ix2 (de_var 2 rfl rfl (.inl nl_least_classes)) (de_var 10 rfl rfl (.inl nl_least_other)) (fun _ _ => rfl)) (de_var 3 rfl rfl (.inl nl_least_numbers)) (by with_unfolding_all rfl)) ?_ ?_ (fun q17 => ?_)
        · refine db_sub (set_2 hu) s_set2 (de_callB c_len2 s_len2 nl_least_len T.n_len bt_len (da_cons (de_var 4 rfl rfl (.inl nl_least_order)) da_nil)) (de_var 3 rfl rfl (.inl nl_least_numbers)) (de_ix (ix_2 hu) s_ix2 (de_var 2 rfl rfl (.inl nl_least_classes)) (de_var 10 rfl rfl (.inl nl_least_other)) (fun _ _ => rfl)) ?_
          refine db_expr (de_meth PySem.F.plainAttrs_list PySem.F.slot_list_append PySem.F.type_list_append ty_list st_list mt_append s_append (de_var 4 rfl rfl (.inl nl_least_order)) (da_cons (de_var 10 rfl rfl (.inl nl_least_other)) da_nil)) ?_
          exact db_nil (.s (.s (.s (.s (.s (.s (.s (.s (.s (.s (.s .nil)))))))))))
        · exact db_nil (.s (.s (.s (.s (.s (.s (.s (.s (.s (.s (.s .nil)))))))))))
        refine db_expr (de_meth PySem.F.plainAttrs_list PySem.F.slot_list_append PySem.F.type_list_append ty_list st_list mt_append s_append (de_var 8 rfl rfl (.inl nl_least_pairs)) (da_cons (de_tup (da_cons (de_var 9 rfl rfl (.inl nl_least_field)) (da_cons (de_ix (ix_2 hu) s_ix2 (de_var 3 rfl rfl (.inl nl_least_numbers)) (de_ix (ix_2 hu) s_ix2 (de_var 2 rfl rfl (.inl nl_least_classes)) (de_var 10 rfl rfl (.inl nl_least_other)) (fun _ _ => rfl)) (fun _ _ => rfl)) da_nil)) (Nat.le_of_ble_eq_true rfl)) da_nil)) ?_
        exact db_nil (.s (.s (.s (.s (.s (.s (.s (.s (.s (.n (.n .nil)))))))))))
      · exact db_nil (.s (.s (.s (.s (.s (.s (.s (.s (.s (.n (.n .nil)))))))))))
    show DB _ _ _ _ [some v0_automaton, some v2_is_lively, some v4_classes, some v5_numbers, some v6_order, some v7_found, some v10_ends, some v11_edges, some v12_pairs, none, none] _ _
    refine db_expr (de_meth PySem.F.plainAttrs_list PySem.F.slot_list_append PySem.F.type_list_append ty_list st_list mt_append s_append (de_var 5 rfl rfl (.inl nl_least_found)) (da_cons (de_tup (da_cons (de_var 6 rfl rfl (.inl nl_least_ends)) (da_cons (de_callC (de_callT call_tupleF s_tuple nl_least_tuple T.n_tuple bt_tuple (da_cons (de_var 8 rfl rfl (.inl nl_least_pairs)) da_nil)) fun _ _ _ q => tuple2_ok q) da_nil)) (Nat.le_of_ble_eq_true rfl)) da_nil)) ?_
    exact db_nil (.s (.s (.s (.s (.s (.s (.n (.n (.n (.s (.s .nil)))))))))))
  show DB _ _ _ _ [some v0_automaton, some v2_is_lively, some v4_classes, some v5_numbers, some v6_order, some v7_found, none, none, none, none, none] _ _
  refine db_frzQ 5 rfl (fun v20_found => ?_)
  show DB _ _ _ _ [some v0_automaton, some v2_is_lively, some v4_classes, some v5_numbers, some v6_order, some v20_found, none, none, none, none, none] _ _
  exact db_ret (de_callC (de_callT call_tupleF s_tuple nl_least_tuple T.n_tuple bt_tuple (da_cons (de_var 5 rfl rfl (.inl nl_least_found)) da_nil)) fun _ _ _ q => tuple2_ok q)
theorem ok_state_behind (T : Txt P w K mg Ad Fd base) : FnG P w K mg base CX0 2 (Ad 7) (Fd 7) (["automaton", "word"] : List Str) (spF ⟨K, w, P, mg⟩ 2 (ap2 c_state_behind)) := by
  refine fng_cast (fng_forget (fng_code (st := top 12) (N := ["automaton", "word", "index", "field"]) (k := 1) (code := apB2 cb_state_behind) (Jn := fun _ => List.replicate 4 none) (Jl := fun _ => []) T.f_state_behind sc_state_behind fun cdv A outer s H E ds hg hcd hr hl => ?_)) (apG2 cb_state_behind)
  match ds, hl with
  | [v0_automaton, v1_word], _ =>
  have hgd : (A.deeper (envOfC "state_behind" (defScope (top 12)) s.heap.objs.size (Ad 7) cdv)).guards = some [] := hg
  have hu := hr.units
  replace hcd := code_kds hcd
  show DB _ _ _ _ [some v0_automaton, some v1_word, none, none] _ (cb_state_behind v0_automaton v1_word)
  unfold cb_state_behind
  refine db_let 2 sc_state_behind.nd rfl (.inl nl_state_behind_index) (de_callG (ok_first_of T) hgd (hr.mono (by decide)) nl_state_behind_first_of T.g_first_of T.f_first_of.kp T.b_first_of (da_cons (de_var 0 rfl rfl (.inl nl_state_behind_automaton)) da_nil)) (fun v3_index => ?_) (hf := (.inr nl_state_behind_index))
  show DB _ _ _ _ [some v0_automaton, some v1_word, some v3_index, none] _ _
  refine db_for (Jh := fun (q4 : D) => [some v0_automaton, some v1_word, some q4, none]) (p := .nm) (is := [3]) (b := fun ds6 c => l1_state_behind v0_automaton (ds6.getD 0 .non) c) (c0 := v3_index) PassesOwn.never rfl (di_seq2 (de_var 1 rfl rfl (.inl nl_state_behind_word))) (dg_nm 3 sc_state_behind.nd rfl (.inl nl_state_behind_field) (.inr nl_state_behind_field)) (fun ds6 q4 => ?_) (.s (.s (.s (.s .nil)))) (fun q8 => ?_)
  · show DB _ _ _ _ [some v0_automaton, some v1_word, some q4, some (ds6.getD 0 .non)] _ (l1_state_behind v0_automaton (ds6.getD 0 .non) q4)
    unfold l1_state_behind
    generalize ds6.getD 0 .non = t5_field
    refine db_let 2 sc_state_behind.nd rfl (.inl nl_state_behind_index) (de_meth PySem.F.plainAttrs_dict PySem.F.slot_dict_get PySem.F.type_dict_get ty_dict3 st_dict3 (mt_or (mt_getK hu) mt_getCd) s_get3 (de_callG (ok_edges_at T) hgd (hr.mono (by decide)) nl_state_behind_edges_at T.g_edges_at T.f_edges_at.kp T.b_edges_at (da_cons (de_var 0 rfl rfl (.inl nl_state_behind_automaton)) (da_cons (de_var 2 rfl rfl (.inl nl_state_behind_index)) da_nil))) (da_cons (de_var 3 rfl rfl (.inl nl_state_behind_field)) (da_cons (de_globE nl_state_behind_NOWHERE T.cv_NOWHERE) da_nil))) (fun v7_index => ?_) (hf := (.inr nl_state_behind_index))
    show DB _ _ _ _ [some v0_automaton, some v1_word, some v7_index, some t5_field] _ _
    exact db_nil (.s (.s (.s (.n .nil))))
  show DB _ _ _ _ [some v0_automaton, some v1_word, some q8, none] _ _
  exact db_ret (de_var 2 rfl rfl (.inl nl_state_behind_index))
theorem ok_Demand_fields (T : Txt P w K mg Ad Fd base) : FnG P w K mg base CX0 2 (Ad 21) (Fd 21) (["self"] : List Str) (spF ⟨K, w, P, mg⟩ 1 (ap1 c_Demand_fields)) := by
  refine fng_cast (fng_forget (fng_code (st := meth 17 10) (N := ["self"]) (k := 1) (code := apB1 cb_Demand_fields) (Jn := fun _ => List.replicate 1 none) (Jl := fun _ => []) T.f_Demand_fields sc_Demand_fields fun cdv A outer s H E ds hg hcd hr hl => ?_)) (apG1 cb_Demand_fields)
  match ds, hl with
  | [v0_self], _ =>
  have hgd : (A.deeper (envOfC "Demand.fields" (defScope (meth 17 10)) s.heap.objs.size (Ad 21) cdv)).guards = some [] := hg
  have hu := hr.units
  replace hcd := code_kds hcd
  show DB _ _ _ _ [some v0_self] _ (cb_Demand_fields v0_self)
  unfold cb_Demand_fields
  exact db_ret (de_callC (de_callT call_tupleF s_tuple nl_Demand_fields_tuple T.n_tuple bt_tuple (da_cons (de_callCF (de_callB (cr_sort4 rfl) s_sort4 nl_Demand_fields_sorted T.n_sorted bt_sorted (da_cons (de_callCF (de_callT (call_list3 rfl) s_list3 nl_Demand_fields_list T.n_list bt_list (da_cons (de_callG (ok_edges_at T) hgd (hr.mono (by decide)) nl_Demand_fields_edges_at T.g_edges_at T.f_edges_at.kp T.b_edges_at (da_cons (de_fld (de_var 0 rfl rfl (.inl nl_Demand_fields_self)) (fun n hn => by rw [List.mem_singleton.mp hn]; exact T.fl_Demand_automaton)) (da_cons (de_callG (ok_first_of T) hgd (hr.mono (by decide)) nl_Demand_fields_first_of T.g_first_of T.f_first_of.kp T.b_first_of (da_cons (de_fld (de_var 0 rfl rfl (.inl nl_Demand_fields_self)) (fun n hn => by rw [List.mem_singleton.mp hn]; exact T.fl_Demand_automaton)) da_nil)) da_nil))) da_nil)) fun _ _ _ q => listF3_ok q) da_nil)) fun _ _ _ q => sortF4_ok q) da_nil)) fun _ _ _ q => tuple2_ok q)
theorem ok_law_pick (T : Txt P w K mg Ad Fd base) : FnG P w K mg base CX0 2 (Ad 25) (Fd 25) (["_law_deck_here", "_law_some"] : List Str) (spF ⟨K, w, P, mg⟩ 2 (ap2 c_law_pick)) := by
  refine fng_cast (fng_forget (fng_code (st := top 21) (N := ["_law_deck_here", "_law_some"]) (k := 1) (code := apB2 cb_law_pick) (Jn := fun _ => List.replicate 2 none) (Jl := fun _ => []) T.f_law_pick sc_law_pick fun cdv A outer s H E ds hg hcd hr hl => ?_)) (apG2 cb_law_pick)
  match ds, hl with
  | [v0__law_deck_here, v1__law_some], _ =>
  have hgd : (A.deeper (envOfC "_law_pick" (defScope (top 21)) s.heap.objs.size (Ad 25) cdv)).guards = some [] := hg
  have hu := hr.units
  replace hcd := code_kds hcd
  show DB _ _ _ _ [some v0__law_deck_here, some v1__law_some] _ (cb_law_pick v0__law_deck_here v1__law_some)
  unfold cb_law_pick
  exact db_ret (de_ix (ix_2 hu) s_ix2 (de_var 1 rfl rfl (.inl nl_law_pick__law_some)) (de_callG (ok_law_draw T) hgd (hr.mono (by decide)) nl_law_pick__law_draw T.g_law_draw T.f_law_draw.kp T.b_law_draw (da_cons (de_var 0 rfl rfl (.inl nl_law_pick__law_deck_here)) (da_cons (de_callB c_len2 s_len2 nl_law_pick_len T.n_len bt_len (da_cons (de_var 1 rfl rfl (.inl nl_law_pick__law_some)) da_nil)) da_nil))) (fun _ _ => rfl))
theorem ok_law_automaton (T : Txt P w K mg Ad Fd base) : FnG P w K mg base CX0 2 (Ad 27) (Fd 27) (["_law_deck_here", "_law_names_here", "_law_top"] : List Str) (spF ⟨K, w, P, mg⟩ 3 (ap3 c_law_automaton)) := by
  refine fng_cast (fng_forget (fng_code (st := top 23) (N := ["_law_deck_here", "_law_names_here", "_law_top", "_law_many", "_law_found", "_law_k", "_law_pairs", "_law_name"]) (k := 1) (code := apB3 cb_law_automaton) (Jn := fun _ => List.replicate 8 none) (Jl := fun _ => []) T.f_law_automaton sc_law_automaton fun cdv A outer s H E ds hg hcd hr hl => ?_)) (apG3 cb_law_automaton)
  match ds, hl with
  | [v0__law_deck_here, v1__law_names_here, v2__law_top], _ =>
  have hgd : (A.deeper (envOfC "_law_automaton" (defScope (top 23)) s.heap.objs.size (Ad 27) cdv)).guards = some [] := hg
  have hu := hr.units
  replace hcd := code_kds hcd
  show DB _ _ _ _ [some v0__law_deck_here, some v1__law_names_here, some v2__law_top, none, none, none, none, none] _ (cb_law_automaton v0__law_deck_here v1__law_names_here v2__law_top)
  unfold cb_law_automaton
  refine db_let 3 sc_law_automaton.nd rfl (.inl nl_law_automaton__law_many) (de_callG (ok_law_draw T) hgd (hr.mono (by decide)) nl_law_automaton__law_draw T.g_law_draw T.f_law_draw.kp T.b_law_draw (da_cons (de_var 0 rfl rfl (.inl nl_law_automaton__law_deck_here)) (da_cons (de_addF3 (de_var 2 rfl rfl (.inl nl_law_automaton__law_top)) de_int) da_nil))) (fun v4_many => ?_) (hf := (.inr nl_law_automaton__law_many))
  show DB _ _ _ _ [some v0__law_deck_here, some v1__law_names_here, some v2__law_top, some v4_many, none, none, none, none] _ _
  refine db_let 4 sc_law_automaton.nd rfl (.inl nl_law_automaton__law_found) (de_lst da_nil (Nat.le_of_ble_eq_true rfl)) (fun v5_found => ?_) (hf := (.inr nl_law_automaton__law_found))
  show DB _ _ _ _ [some v0__law_deck_here, some v1__law_names_here, some v2__law_top, some v4_many, some v5_found, none, none, none] _ _
  refine db_for (Jh := fun (q6 : Unit) => [some v0__law_deck_here, some v1__law_names_here, some v2__law_top, some v4_many, some v5_found, none, none, none]) (p := .nm) (is := [5]) (b := fun ds8 c => l1_law_automaton v1__law_names_here v0__law_deck_here v4_many v5_found (ds8.getD 0 .non) c) (c0 := ()) PassesOwn.never rfl (di_range1 nl_law_automaton_range T.n_range (da_cons (de_var 3 rfl rfl (.inl nl_law_automaton__law_many)) da_nil)) (dg_nm 5 sc_law_automaton.nd rfl (.inl nl_law_automaton__law_k) (.inr nl_law_automaton__law_k)) (fun ds8 q6 => ?_) (.s (.s (.s (.s (.s (.s (.s (.s .nil)))))))) (fun q14 => ?_)
  · show DB _ _ _ _ [some v0__law_deck_here, some v1__law_names_here, some v2__law_top, some v4_many, some v5_found, some (ds8.getD 0 .non), none, none] _ (l1_law_automaton v1__law_names_here v0__law_deck_here v4_many v5_found (ds8.getD 0 .non) q6)
    unfold l1_law_automaton
    generalize ds8.getD 0 .non = t7_k
    refine db_let 6 sc_law_automaton.nd rfl (.inl nl_law_automaton__law_pairs) (de_lst da_nil (Nat.le_of_ble_eq_true rfl)) (fun v9_pairs => ?_) (hf := (.inr nl_law_automaton__law_pairs))
    show DB _ _ _ _ [some v0__law_deck_here, some v1__law_names_here, some v2__law_top, some v4_many, some v5_found, some t7_k, some v9_pairs, none] _ _
    refine db_for (Jh := fun (q10 : Unit) => [some v0__law_deck_here, some v1__law_names_here, some v2__law_top, some v4_many, some v5_found, some t7_k, some v9_pairs, none]) (p := .nm) (is := [7]) (b := fun ds12 c => l2_law_automaton v0__law_deck_here v9_pairs v4_many (ds12.getD 0 .non) c) (c0 := ()) PassesOwn.never rfl (di_seq2 (de_callCF (de_callB (cr_sort4 rfl) s_sort4 nl_law_automaton_sorted T.n_sorted bt_sorted (da_cons (de_var 1 rfl rfl (.inl nl_law_automaton__law_names_here)) da_nil)) fun _ _ _ q => sortF4_ok q)) (dg_nm 7 sc_law_automaton.nd rfl (.inl nl_law_automaton__law_name) (.inr nl_law_automaton__law_name)) (fun ds12 q10 => ?_) (.s (.s (.s (.s (.s (.s (.s (.s .nil)))))))) (fun q13 => ?_)
    · show DB _ _ _ _ [some v0__law_deck_here, some v1__law_names_here, some v2__law_top, some v4_many, some v5_found, some t7_k, some v9_pairs, some (ds12.getD 0 .non)] _ (l2_law_automaton v0__law_deck_here v9_pairs v4_many (ds12.getD 0 .non) q10)
      unfold l2_law_automaton
      generalize ds12.getD 0 .non = t11_name
      refine db_ifL (dt_cmp o_lt s_lt (de_callG (ok_law_draw T) hgd (hr.mono (by decide)) nl_law_automaton__law_draw T.g_law_draw T.f_law_draw.kp T.b_law_draw (da_cons (de_var 0 rfl rfl (.inl nl_law_automaton__law_deck_here)) (da_cons de_int da_nil))) de_int (nomark _)) ?_ ?_
      · refine db_expr (de_meth PySem.F.plainAttrs_list PySem.F.slot_list_append PySem.F.type_list_append ty_list st_list mt_append s_append (de_var 6 rfl rfl (.inl nl_law_automaton__law_pairs)) (da_cons (de_tup (da_cons (de_var 7 rfl rfl (.inl nl_law_automaton__law_name)) (da_cons (de_callG (ok_law_draw T) hgd (hr.mono (by decide)) nl_law_automaton__law_draw T.g_law_draw T.f_law_draw.kp T.b_law_draw (da_cons (de_var 0 rfl rfl (.inl nl_law_automaton__law_deck_here)) (da_cons (de_var 3 rfl rfl (.inl nl_law_automaton__law_many)) da_nil))) da_nil)) (Nat.le_of_ble_eq_true rfl)) da_nil)) ?_
        exact db_nil (.s (.s (.s (.s (.s (.s (.s (.n .nil))))))))
      · exact db_nil (.s (.s (.s (.s (.s (.s (.s (.n .nil))))))))
    show DB _ _ _ _ [some v0__law_deck_here, some v1__law_names_here, some v2__law_top, some v4_many, some v5_found, some t7_k, some v9_pairs, none] _ _
    refine db_expr (de_meth PySem.F.plainAttrs_list PySem.F.slot_list_append PySem.F.type_list_append ty_list st_list mt_append s_append (de_var 4 rfl rfl (.inl nl_law_automaton__law_found)) (da_cons (de_tup (da_cons (de_cmp (o_eq4 hu) s_eq4 (de_callG (ok_law_draw T) hgd (hr.mono (by decide)) nl_law_automaton__law_draw T.g_law_draw T.f_law_draw.kp T.b_law_draw (da_cons (de_var 0 rfl rfl (.inl nl_law_automaton__law_deck_here)) (da_cons de_int da_nil))) de_int (nomark _)) (da_cons (de_callC (de_callT call_tupleF s_tuple nl_law_automaton_tuple T.n_tuple bt_tuple (da_cons (de_var 6 rfl rfl (.inl nl_law_automaton__law_pairs)) da_nil)) fun _ _ _ q => tuple2_ok q) da_nil)) (Nat.le_of_ble_eq_true rfl)) da_nil)) ?_
    exact db_nil (.s (.s (.s (.s (.s (.n (.n (.s .nil))))))))
  show DB _ _ _ _ [some v0__law_deck_here, some v1__law_names_here, some v2__law_top, some v4_many, some v5_found, none, none, none] _ _
  refine db_frzQ 4 rfl (fun v15_found => ?_)
  show DB _ _ _ _ [some v0__law_deck_here, some v1__law_names_here, some v2__law_top, some v4_many, some v15_found, none, none, none] _ _
  exact db_ret (de_callC (de_callT call_tupleF s_tuple nl_law_automaton_tuple T.n_tuple bt_tuple (da_cons (de_var 4 rfl rfl (.inl nl_law_automaton__law_found)) da_nil)) fun _ _ _ q => tuple2_ok q)
theorem ok_Demand_init (T : Txt P w K mg Ad Fd base) : FnG P w K mg base CX0 3 (Ad 11) (Fd 11) (["self", "automaton"] : List Str) (spF ⟨K, w, P, mg⟩ 2 (ap2 c_Demand_init)) := by
  refine fng_cast (fng_forget (fng_code (st := meth 17 0) (N := ["self", "automaton"]) (k := 2) (code := apB2 cb_Demand_init) (Jn := fun _ => List.replicate 2 none) (Jl := fun _ => []) T.f_Demand_init sc_Demand_init fun cdv A outer s H E ds hg hcd hr hl => ?_)) (apG2 cb_Demand_init)
  match ds, hl with
  | [v0_self, v1_automaton], _ =>
  have hgd : (A.deeper (envOfC "Demand.__init__" (defScope (meth 17 0)) s.heap.objs.size (Ad 11) cdv)).guards = some [] := hg
  have hu := hr.units
  replace hcd := code_kds hcd
  show DB _ _ _ _ [some v0_self, some v1_automaton] _ (cb_Demand_init v0_self v1_automaton)
  unfold cb_Demand_init
  refine db_fld (fun n hn => by rw [List.mem_singleton.mp hn]; exact T.fl_Demand_automaton) (de_callG (ok_least T) hgd (hr.mono (by decide)) nl_Demand_init_least T.g_least T.f_least.kp T.b_least (da_cons (de_var 1 rfl rfl (.inl nl_Demand_init_automaton)) da_nil)) (de_var 0 rfl rfl (.inl nl_Demand_init_self)) ?_
  exact db_nil (le_bot rfl)
theorem ok_Demand_contains (T : Txt P w K mg Ad Fd base) : FnG P w K mg base CX0 3 (Ad 17) (Fd 17) (["self", "word"] : List Str) (spF ⟨K, w, P, mg⟩ 2 (ap2 c_Demand_contains)) := by
  refine fng_cast (fng_forget (fng_code (st := meth 17 6) (N := ["self", "word"]) (k := 2) (code := apB2 cb_Demand_contains) (Jn := fun _ => List.replicate 2 none) (Jl := fun _ => []) T.f_Demand_contains sc_Demand_contains fun cdv A outer s H E ds hg hcd hr hl => ?_)) (apG2 cb_Demand_contains)
  match ds, hl with
  | [v0_self, v1_word], _ =>
  have hgd : (A.deeper (envOfC "Demand.__contains__" (defScope (meth 17 6)) s.heap.objs.size (Ad 17) cdv)).guards = some [] := hg
  have hu := hr.units
  replace hcd := code_kds hcd
  show DB _ _ _ _ [some v0_self, some v1_word] _ (cb_Demand_contains v0_self v1_word)
  unfold cb_Demand_contains
  exact db_ret (de_callG (ok_ends_at T) hgd (hr.mono (by decide)) nl_Demand_contains_ends_at T.g_ends_at T.f_ends_at.kp T.b_ends_at (da_cons (de_fld (de_var 0 rfl rfl (.inl nl_Demand_contains_self)) (fun n hn => by rw [List.mem_singleton.mp hn]; exact T.fl_Demand_automaton)) (da_cons (de_callG (ok_state_behind T) hgd (hr.mono (by decide)) nl_Demand_contains_state_behind T.g_state_behind T.f_state_behind.kp T.b_state_behind (da_cons (de_fld (de_var 0 rfl rfl (.inl nl_Demand_contains_self)) (fun n hn => by rw [List.mem_singleton.mp hn]; exact T.fl_Demand_automaton)) (da_cons (de_var 1 rfl rfl (.inl nl_Demand_contains_word)) da_nil))) da_nil)))
theorem ok_law_names (T : Txt P w K mg Ad Fd base) : FnG P w K mg base CX0 3 (Ad 26) (Fd 26) (["_law_deck_here", "_law_many"] : List Str) (spF ⟨K, w, P, mg⟩ 2 (ap2 c_law_names)) := by
  refine fng_cast (fng_forget (fng_code (st := top 22) (N := ["_law_deck_here", "_law_many", "_law_letters", "_law_first", "_law_way", "_law_words", "_law_stem", "_law_at", "_law_k"]) (k := 2) (code := apB2 cb_law_names) (Jn := fun _ => List.replicate 9 none) (Jl := fun _ => []) T.f_law_names sc_law_names fun cdv A outer s H E ds hg hcd hr hl => ?_)) (apG2 cb_law_names)
  match ds, hl with
  | [v0__law_deck_here, v1__law_many], _ =>
  have hgd : (A.deeper (envOfC "_law_names" (defScope (top 22)) s.heap.objs.size (Ad 26) cdv)).guards = some [] := hg
  have hu := hr.units
  replace hcd := code_kds hcd
  show DB _ _ _ _ [some v0__law_deck_here, some v1__law_many, none, none, none, none, none, none, none] _ (cb_law_names v0__law_deck_here v1__law_many)
  unfold cb_law_names
  refine db_asg (p := .tp [.nm, .nm, .nm]) (is := [2, 3, 4]) (dg_tp rfl (dgs_cons (dg_nm 2 sc_law_names.nd rfl (.inr nl_law_names__law_letters) (.inl rfl)) (dgs_cons (dg_nm 3 sc_law_names.nd rfl (.inr nl_law_names__law_first) (.inl rfl)) (dgs_cons (dg_nm 4 sc_law_names.nd rfl (.inl nl_law_names__law_way) (.inr nl_law_names__law_way)) dgs_nil)))) (de_tup (da_cons de_str (da_cons (de_callG (ok_law_draw T) hgd (hr.mono (by decide)) nl_law_names__law_draw T.g_law_draw T.f_law_draw.kp T.b_law_draw (da_cons (de_var 0 rfl rfl (.inl nl_law_names__law_deck_here)) (da_cons de_int da_nil))) (da_cons (de_callG (ok_law_draw T) hgd (hr.mono (by decide)) nl_law_names__law_draw T.g_law_draw T.f_law_draw.kp T.b_law_draw (da_cons (de_var 0 rfl rfl (.inl nl_law_names__law_deck_here)) (da_cons de_int da_nil))) da_nil))) (Nat.le_of_ble_eq_true rfl)) (fun ds3 => ?_)
  show DB _ _ _ _ [some v0__law_deck_here, some v1__law_many, some (ds3.getD 0 .non), some (ds3.getD 1 .non), some (ds3.getD 2 .non), none, none, none, none] _ _
  generalize ds3.getD 0 .non = v4_letters
  generalize ds3.getD 1 .non = v5_first
  generalize ds3.getD 2 .non = v6_way
  refine db_if (J1 := fun (q7 : Unit) => [some v0__law_deck_here, some v1__law_many, some v4_letters, some v5_first, some v6_way, none, none, none, none]) (dt_cmp (o_eq4 hu) s_eq4 (de_var 4 rfl rfl (.inl nl_law_names__law_way)) de_int (nomark _)) ?_ ?_ (fun q7 => ?_)
  · refine db_let 5 sc_law_names.nd rfl (.inr nl_law_names__law_words) (de_lstF (da_cons de_str (da_cons de_str (da_cons de_str (da_cons de_str (da_cons de_str (da_cons de_str (da_cons de_str (da_cons de_str (da_cons de_str (da_cons de_str da_nil)))))))))) (Nat.le_of_ble_eq_true rfl)) (fun v8_words => ?_) (hf := (.inl rfl))
    show DB _ _ _ _ [some v0__law_deck_here, some v1__law_many, some v4_letters, some v5_first, some v6_way, some v8_words, none, none, none] _ _
    unfold m1_law_names
    exact db_ret (de_frzQ (de_lc (p := .nm) (is := [8]) (own := [("_law_k", 8)]) (mt := fun (ds9 : List D) => W.pure true) (me := fun (ds9 : List D) => e2 opIx2 (W.pure v8_words) (e2 opMod (e2 opAddF3 (W.pure v5_first) (e2 opMulF3 (W.pure (.int 3)) (W.pure (ds9.getD 0 .non)))) (W.pure (.int 10)))) rfl sc_law_names.nd (di_range1 nl_law_names_range T.n_range (da_cons (de_var 1 rfl rfl (.inl nl_law_names__law_many)) da_nil)) (by show BlkOk ["_law_deck_here", "_law_many", "_law_letters", "_law_first", "_law_way", "_law_words", "_law_stem", "_law_at", "_law_k"] ⟨_, _, _, _, _⟩ ⟨_, _, _, _, _⟩ [("_law_k", 8)]; exact ⟨rfl, by decide +kernel, by first | decide +kernel | (intro y hy z; exfalso; revert y; decide +kernel), by first | decide +kernel | (intro y hy z; exfalso; revert y; decide +kernel), by first | decide +kernel | (intro y hy z; exfalso; revert y; decide +kernel)⟩) rfl (fun _ _ _ _ _ => (dg_nm 8 sc_law_names.nd rfl (.inl (rl_local (by decide +kernel))) (.inr (rl_local (by decide +kernel))))) (fun _ _ _ _ _ ds9 => by show DTs _ _ [some v0__law_deck_here, some v1__law_many, some v4_letters, some v5_first, some v6_way, some v8_words, none, none, some (ds9.getD 0 .non)] _ _; generalize ds9.getD 0 .non = t10_k; exact dts_nil) (fun _ _ _ _ _ ds9 => by show DE _ _ [some v0__law_deck_here, some v1__law_many, some v4_letters, some v5_first, some v6_way, some v8_words, none, none, some (ds9.getD 0 .non)] _ _; generalize ds9.getD 0 .non = t10_k; exact (de_ix (ix_2 hu) s_ix2 (de_var 5 rfl rfl (.inr (.inl (rl_free (by decide +kernel) rfl nl_law_names__law_words)))) (de_bin op_mod s_mod (de_addF3 (de_var 3 rfl rfl (.inr (.inl (rl_free (by decide +kernel) rfl nl_law_names__law_first)))) (de_mulF3 de_int (de_var 8 rfl rfl (.inl (rl_local (by decide +kernel)))))) de_int) (fun _ _ => rfl)))))
  · exact db_nil (.s (.s (.s (.s (.s (.s (.s (.s (.s .nil)))))))))
  refine db_asg (p := .tp [.nm, .nm]) (is := [6, 7]) (dg_tp rfl (dgs_cons (dg_nm 6 sc_law_names.nd rfl (.inr nl_law_names__law_stem) (.inl rfl)) (dgs_cons (dg_nm 7 sc_law_names.nd rfl (.inr nl_law_names__law_at) (.inl rfl)) dgs_nil))) (de_tup (da_cons (de_mulS (de_callG (ok_law_pick T) hgd (hr.mono (by decide)) nl_law_names__law_pick T.g_law_pick T.f_law_pick.kp T.b_law_pick (da_cons (de_var 0 rfl rfl (.inl nl_law_names__law_deck_here)) (da_cons (de_lstF (da_cons de_str (da_cons de_str (da_cons de_str da_nil))) (Nat.le_of_ble_eq_true rfl)) da_nil))) (de_callT call_int1 s_int nl_law_names_int T.n_int bt_int (da_cons (de_cmp (o_eq4 hu) s_eq4 (de_var 4 rfl rfl (.inl nl_law_names__law_way)) de_int (nomark _)) da_nil))) (da_cons (de_callG (ok_law_draw T) hgd (hr.mono (by decide)) nl_law_names__law_draw T.g_law_draw T.f_law_draw.kp T.b_law_draw (da_cons (de_var 0 rfl rfl (.inl nl_law_names__law_deck_here)) (da_cons de_int da_nil))) da_nil)) (Nat.le_of_ble_eq_true rfl)) (fun ds11 => ?_)
  show DB _ _ _ _ [some v0__law_deck_here, some v1__law_many, some v4_letters, some v5_first, some v6_way, none, some (ds11.getD 0 .non), some (ds11.getD 1 .non), none] _ _
  generalize ds11.getD 0 .non = v12_stem
  generalize ds11.getD 1 .non = v13_at
  unfold m2_law_names
  exact db_ret (de_frzQ (de_lc (p := .nm) (is := [8]) (own := [("_law_k", 8)]) (mt := fun (ds14 : List D) => W.pure true) (me := fun (ds14 : List D) => e2 opAddF3 (e2 opAddF3 ((W.pure v12_stem).bind fun d => (W.pure (none : Option Int)).bind fun l => ((W.pure v13_at).bind opPart).bind fun u => opSlF d l u) (e2 opIx2 (W.pure v4_letters) (e2 opMod (e2 opAddF3 (W.pure v5_first) (e2 opMulF3 (W.pure (.int 5)) (W.pure (ds14.getD 0 .non)))) (W.pure (.int 26))))) ((W.pure v12_stem).bind fun d => ((W.pure v13_at).bind opPart).bind fun l => (W.pure (none : Option Int)).bind fun u => opSlF d l u)) rfl sc_law_names.nd (di_range1 nl_law_names_range T.n_range (da_cons (de_var 1 rfl rfl (.inl nl_law_names__law_many)) da_nil)) (by show BlkOk ["_law_deck_here", "_law_many", "_law_letters", "_law_first", "_law_way", "_law_words", "_law_stem", "_law_at", "_law_k"] ⟨_, _, _, _, _⟩ ⟨_, _, _, _, _⟩ [("_law_k", 8)]; exact ⟨rfl, by decide +kernel, by first | decide +kernel | (intro y hy z; exfalso; revert y; decide +kernel), by first | decide +kernel | (intro y hy z; exfalso; revert y; decide +kernel), by first | decide +kernel | (intro y hy z; exfalso; revert y; decide +kernel)⟩) rfl (fun _ _ _ _ _ => (dg_nm 8 sc_law_names.nd rfl (.inl (rl_local (by decide +kernel))) (.inr (rl_local (by decide +kernel))))) (fun _ _ _ _ _ ds14 => by show DTs _ _ [some v0__law_deck_here, some v1__law_many, some v4_letters, some v5_first, some v6_way, none, some v12_stem, some v13_at, some (ds14.getD 0 .non)] _ _; generalize ds14.getD 0 .non = t15_k; exact dts_nil) (fun _ _ _ _ _ ds14 => by show DE _ _ [some v0__law_deck_here, some v1__law_many, some v4_letters, some v5_first, some v6_way, none, some v12_stem, some v13_at, some (ds14.getD 0 .non)] _ _; generalize ds14.getD 0 .non = t15_k; exact (de_addF3 (de_addF3 (de_slF (de_var 6 rfl rfl (.inr (.inl (rl_free (by decide +kernel) rfl nl_law_names__law_stem)))) do_none (do_some (de_var 7 rfl rfl (.inr (.inl (rl_free (by decide +kernel) rfl nl_law_names__law_at)))))) (de_ix (ix_2 hu) s_ix2 (de_var 2 rfl rfl (.inr (.inl (rl_free (by decide +kernel) rfl nl_law_names__law_letters)))) (de_bin op_mod s_mod (de_addF3 (de_var 3 rfl rfl (.inr (.inl (rl_free (by decide +kernel) rfl nl_law_names__law_first)))) (de_mulF3 de_int (de_var 8 rfl rfl (.inl (rl_local (by decide +kernel)))))) de_int) (fun _ _ => rfl))) (de_slF (de_var 6 rfl rfl (.inr (.inl (rl_free (by decide +kernel) rfl nl_law_names__law_stem)))) (do_some (de_var 7 rfl rfl (.inr (.inl (rl_free (by decide +kernel) rfl nl_law_names__law_at))))) do_none)))))
theorem ok_law_fields_right (T : Txt P w K mg Ad Fd base) : FnG P w K mg base CX0 4 (Ad 31) (Fd 31) (["_law_one", "_law_states", "_law_start"] : List Str) (spF ⟨K, w, P, mg⟩ 3 (ap3 c_law_fields_right)) := by
  refine fng_cast (fng_forget (fng_code (st := top 27) (N := ["_law_one", "_law_states", "_law_start", "_law_alive_here", "_law_due", "_law_name", "_law_to_here"]) (k := 3) (code := apB3 cb_law_fields_right) (Jn := fun _ => List.replicate 7 none) (Jl := fun _ => []) T.f_law_fields_right sc_law_fields_right fun cdv A outer s H E ds hg hcd hr hl => ?_)) (apG3 cb_law_fields_right)
  match ds, hl with
  | [v0__law_one, v1__law_states, v2__law_start], _ =>
  have hgd : (A.deeper (envOfC "_law_fields_right" (defScope (top 27)) s.heap.objs.size (Ad 31) cdv)).guards = some [] := hg
  have hu := hr.units
  replace hcd := code_kds hcd
  show DB _ _ _ _ [some v0__law_one, some v1__law_states, some v2__law_start, none, none, none, none] _ (cb_law_fields_right v0__law_one v1__law_states v2__law_start)
  unfold cb_law_fields_right
  refine db_asg (p := .tp [.nm, .nm]) (is := [3, 4]) (dg_tp rfl (dgs_cons (dg_nm 3 sc_law_fields_right.nd rfl (.inr nl_law_fields_right__law_alive_here) (.inl rfl)) (dgs_cons (dg_nm 4 sc_law_fields_right.nd rfl (.inl nl_law_fields_right__law_due) (.inr nl_law_fields_right__law_due)) dgs_nil))) (de_tup (da_cons (de_callG (ok_law_alive T) hgd (hr.mono (by decide)) nl_law_fields_right__law_alive T.g_law_alive T.f_law_alive.kp T.b_law_alive (da_cons (de_var 1 rfl rfl (.inl nl_law_fields_right__law_states)) da_nil)) (da_cons (de_lstF da_nil (Nat.le_of_ble_eq_true rfl)) da_nil)) (Nat.le_of_ble_eq_true rfl)) (fun ds4 => ?_)
  show DB _ _ _ _ [some v0__law_one, some v1__law_states, some v2__law_start, some (ds4.getD 0 .non), some (ds4.getD 1 .non), none, none] _ _
  generalize ds4.getD 0 .non = v5_alive_here
  generalize ds4.getD 1 .non = v6_due
  refine db_if (J1 := fun (q7 : D) => [some v0__law_one, some v1__law_states, some v2__law_start, some v5_alive_here, some q7, none, none]) (dt_cmp op_ge s_ge (de_var 2 rfl rfl (.inl nl_law_fields_right__law_start)) de_int (nomark _)) ?_ ?_ (fun q7 => ?_)
  · unfold m1_law_fields_right
    refine db_letLc (p := .tp [.nm, .nm]) (is := [5, 6]) (own := [("_law_name", 5), ("_law_to_here", 6)]) (mt := fun (ds8 : List D) => (e2 opIx2 (W.pure v5_alive_here) (W.pure (ds8.getD 1 .non))).bind opTru) (me := fun (ds8 : List D) => W.pure (ds8.getD 0 .non)) 4 rfl sc_law_fields_right.nd rfl nl_law_fields_right__law_due (sw_true rfl nl_law_fields_right__law_due rfl rfl) (di_seq2 (de_ix (ix_2 hu) s_ix2 (de_ix (ix_2 hu) s_ix2 (de_var 1 rfl rfl (.inl nl_law_fields_right__law_states)) (de_var 2 rfl rfl (.inl nl_law_fields_right__law_start)) (fun _ _ => rfl)) de_int (fun _ _ => rfl))) (by show BlkOk ["_law_one", "_law_states", "_law_start", "_law_alive_here", "_law_due", "_law_name", "_law_to_here"] ⟨_, _, _, _, _⟩ ⟨_, _, _, _, _⟩ [("_law_name", 5), ("_law_to_here", 6)]; exact ⟨rfl, by decide +kernel, by first | decide +kernel | (intro y hy z; exfalso; revert y; decide +kernel), by first | decide +kernel | (intro y hy z; exfalso; revert y; decide +kernel), by first | decide +kernel | (intro y hy z; exfalso; revert y; decide +kernel)⟩) rfl (fun _ _ _ _ _ => (dg_tp rfl (dgs_cons (dg_nm 5 sc_law_fields_right.nd rfl (.inl (rl_local (by decide +kernel))) (.inr (rl_local (by decide +kernel)))) (dgs_cons (dg_nm 6 sc_law_fields_right.nd rfl (.inl (rl_local (by decide +kernel))) (.inr (rl_local (by decide +kernel)))) dgs_nil)))) (fun _ _ _ _ _ ds8 => by show DTs _ _ [some v0__law_one, some v1__law_states, some v2__law_start, some v5_alive_here, some v6_due, some (ds8.getD 0 .non), some (ds8.getD 1 .non)] _ _; generalize ds8.getD 0 .non = t9_name; generalize ds8.getD 1 .non = t10_to_here; exact (dts_one (dt_val tru_ok s_tru (de_ix (ix_2 hu) s_ix2 (de_var 3 rfl rfl (.inr (.inl (rl_free (by decide +kernel) rfl nl_law_fields_right__law_alive_here)))) (de_var 6 rfl rfl (.inl (rl_local (by decide +kernel)))) (fun _ _ => rfl))))) (fun _ _ _ _ _ ds8 => by show DE _ _ [some v0__law_one, some v1__law_states, some v2__law_start, some v5_alive_here, some v6_due, some (ds8.getD 0 .non), some (ds8.getD 1 .non)] _ _; generalize ds8.getD 0 .non = t9_name; generalize ds8.getD 1 .non = t10_to_here; exact (de_var 5 rfl rfl (.inl (rl_local (by decide +kernel))))) (fun v11_due => ?_)
    show DB _ _ _ _ [some v0__law_one, some v1__law_states, some v2__law_start, some v5_alive_here, some v11_due, none, none] _ _
    refine db_frzQ 4 rfl (fun v12_due => ?_)
    show DB _ _ _ _ [some v0__law_one, some v1__law_states, some v2__law_start, some v5_alive_here, some v12_due, none, none] _ _
    exact db_nil (.s (.s (.s (.s (.s (.s (.s .nil)))))))
  · exact db_nil (.s (.s (.s (.s (.s (.s (.s .nil)))))))
  exact db_ret (de_cmp (o_eq4 hu) s_eq4 (de_callB (c_repr3 T.sys hgd hu) s_repr3 nl_law_fields_right_repr T.n_repr bt_repr (da_cons (de_prop T.m_Demand_fields (de_var 0 rfl rfl (.inl nl_law_fields_right__law_one)) (ok_Demand_fields T) hgd (hr.mono (by decide)) T.b_Demand_fields) da_nil)) (de_callB (c_repr3 T.sys hgd hu) s_repr3 nl_law_fields_right_repr T.n_repr bt_repr (da_cons (de_callC (de_callT call_tupleF s_tuple nl_law_fields_right_tuple T.n_tuple bt_tuple (da_cons (de_var 4 rfl rfl (.inl nl_law_fields_right__law_due)) da_nil)) fun _ _ _ q => tuple2_ok q) da_nil)) (nomark _))
theorem ok_Demand_of (T : Txt P w K mg Ad Fd base) : FnG P w K mg base CX0 5 (Ad 12) (Fd 12) (["automaton"] : List Str) (spF ⟨K, w, P, mg⟩ 1 (ap1 c_Demand_of)) := by
  refine fng_cast (fng_forget (fng_code (st := meth 17 1) (N := ["automaton"]) (k := 4) (code := apB1 cb_Demand_of) (Jn := fun _ => List.replicate 1 none) (Jl := fun _ => []) T.f_Demand_of sc_Demand_of fun cdv A outer s H E ds hg hcd hr hl => ?_)) (apG1 cb_Demand_of)
  match ds, hl with
  | [v0_automaton], _ =>
  have hgd : (A.deeper (envOfC "Demand.of" (defScope (meth 17 1)) s.heap.objs.size (Ad 12) cdv)).guards = some [] := hg
  have hu := hr.units
  replace hcd := code_kds hcd
  show DB _ _ _ _ [some v0_automaton] _ (cb_Demand_of v0_automaton)
  unfold cb_Demand_of
  exact db_ret (de_make T.m_Demand_init (ok_Demand_init T) hgd (hr.mono (by decide)) nl_Demand_of_Demand T.b_Demand_init (da_cons (de_var 0 rfl rfl (.inl nl_Demand_of_automaton)) da_nil))
theorem ok_Demand_eq (T : Txt P w K mg Ad Fd base) : FnG P w K mg base CX0 5 (Ad 13) (Fd 13) (["self", "other"] : List Str) (spF ⟨K, w, P, mg⟩ 2 (ap2 c_Demand_eq)) := by
  refine fng_cast (fng_forget (fng_code (st := meth 17 2) (N := ["self", "other"]) (k := 4) (code := apB2 cb_Demand_eq) (Jn := fun _ => List.replicate 2 none) (Jl := fun _ => []) T.f_Demand_eq sc_Demand_eq fun cdv A outer s H E ds hg hcd hr hl => ?_)) (apG2 cb_Demand_eq)
  match ds, hl with
  | [v0_self, v1_other], _ =>
  have hgd : (A.deeper (envOfC "Demand.__eq__" (defScope (meth 17 2)) s.heap.objs.size (Ad 13) cdv)).guards = some [] := hg
  have hu := hr.units
  replace hcd := code_kds hcd
  show DB _ _ _ _ [some v0_self, some v1_other] _ (cb_Demand_eq v0_self v1_other)
  unfold cb_Demand_eq
  exact db_ret (de_andT (de_isiOwn T.is_Demand (de_var 1 rfl rfl (.inl nl_Demand_eq_other)) nl_Demand_eq_isinstance T.n_isinstance nl_Demand_eq_Demand) (de_one (de_cmp (o_eq4 hu) s_eq4 (de_fld (de_var 0 rfl rfl (.inl nl_Demand_eq_self)) (fun n hn => by rw [List.mem_singleton.mp hn]; exact T.fl_Demand_automaton)) (de_fld (de_var 1 rfl rfl (.inl nl_Demand_eq_other)) (fun n hn => by rw [List.mem_singleton.mp hn]; exact T.fl_Demand_automaton)) (nomark _))))
theorem ok_Demand_behind (T : Txt P w K mg Ad Fd base) : FnG P w K mg base CX0 5 (Ad 20) (Fd 20) (["self", "field"] : List Str) (spF ⟨K, w, P, mg⟩ 2 (ap2 c_Demand_behind)) := by
  refine fng_cast (fng_forget (fng_code (st := meth 17 9) (N := ["self", "field"]) (k := 4) (code := apB2 cb_Demand_behind) (Jn := fun _ => List.replicate 2 none) (Jl := fun _ => []) T.f_Demand_behind sc_Demand_behind fun cdv A outer s H E ds hg hcd hr hl => ?_)) (apG2 cb_Demand_behind)
  match ds, hl with
  | [v0_self, v1_field], _ =>
  have hgd : (A.deeper (envOfC "Demand.behind" (defScope (meth 17 9)) s.heap.objs.size (Ad 20) cdv)).guards = some [] := hg
  have hu := hr.units
  replace hcd := code_kds hcd
  show DB _ _ _ _ [some v0_self, some v1_field] _ (cb_Demand_behind v0_self v1_field)
  unfold cb_Demand_behind
  exact db_ret (de_make T.m_Demand_init (ok_Demand_init T) hgd (hr.mono (by decide)) nl_Demand_behind_Demand T.b_Demand_init (da_cons (de_callG (ok_rooted T) hgd (hr.mono (by decide)) nl_Demand_behind_rooted T.g_rooted T.f_rooted.kp T.b_rooted (da_cons (de_fld (de_var 0 rfl rfl (.inl nl_Demand_behind_self)) (fun n hn => by rw [List.mem_singleton.mp hn]; exact T.fl_Demand_automaton)) (da_cons (de_callG (ok_state_behind T) hgd (hr.mono (by decide)) nl_Demand_behind_state_behind T.g_state_behind T.f_state_behind.kp T.b_state_behind (da_cons (de_fld (de_var 0 rfl rfl (.inl nl_Demand_behind_self)) (fun n hn => by rw [List.mem_singleton.mp hn]; exact T.fl_Demand_automaton)) (da_cons (de_tup (da_cons (de_var 1 rfl rfl (.inl nl_Demand_behind_field)) da_nil) (Nat.le_of_ble_eq_true rfl)) da_nil))) da_nil))) da_nil))
theorem ok_law_is_same (T : Txt P w K mg Ad Fd base) : FnG P w K mg base CX0 6 (Ad 30) (Fd 30) (["_law_told", "_law_states", "_law_start"] : List Str) (spF ⟨K, w, P, mg⟩ 3 (ap3 c_law_is_same)) := by
  refine fng_cast (fng_forget (fng_code (st := top 26) (N := ["_law_told", "_law_states", "_law_start", "_law_alive_here", "_law_seen", "_law_waiting", "_law_mine", "_law_theirs", "_law_pairs", "_law_one", "_law_twin", "_law_name", "_law_to_here"]) (k := 5) (code := apB3 cb_law_is_same) (Jn := fun _ => List.replicate 13 none) (Jl := fun _ => []) T.f_law_is_same sc_law_is_same fun cdv A outer s H E ds hg hcd hr hl => ?_)) (apG3 cb_law_is_same)
  match ds, hl with
  | [v0__law_told, v1__law_states, v2__law_start], _ =>
  have hgd : (A.deeper (envOfC "_law_is_same" (defScope (top 26)) s.heap.objs.size (Ad 30) cdv)).guards = some [] := hg
  have hu := hr.units
  replace hcd := code_kds hcd
  show DB _ _ _ _ [some v0__law_told, some v1__law_states, some v2__law_start, none, none, none, none, none, none, none, none, none, none] _ (cb_law_is_same v0__law_told v1__law_states v2__law_start)
  unfold cb_law_is_same
  refine db_let 3 sc_law_is_same.nd rfl (.inr nl_law_is_same__law_alive_here) (de_callG (ok_law_alive T) hgd (hr.mono (by decide)) nl_law_is_same__law_alive T.g_law_alive T.f_law_alive.kp T.b_law_alive (da_cons (de_var 1 rfl rfl (.inl nl_law_is_same__law_states)) da_nil)) (fun v4_alive_here => ?_) (hf := (.inl rfl))
  show DB _ _ _ _ [some v0__law_told, some v1__law_states, some v2__law_start, some v4_alive_here, none, none, none, none, none, none, none, none, none] _ _
  refine db_if (J1 := fun (q5 : Unit) => [some v0__law_told, some v1__law_states, some v2__law_start, some v4_alive_here, none, none, none, none, none, none, none, none, none]) (DW.dt (dw_or (dt_cmp o_lt s_lt (de_var 2 rfl rfl (.inl nl_law_is_same__law_start)) de_int (nomark _)) (dw_or (dt_not (dt_val tru_ok s_tru (de_ix (ix_2 hu) s_ix2 (de_var 3 rfl rfl (.inr (.inl nl_law_is_same__law_alive_here))) (de_var 2 rfl rfl (.inl nl_law_is_same__law_start)) (fun _ _ => rfl)))) (dw_one (dt_cmp (o_eq4 hu) s_eq4 (de_var 0 rfl rfl (.inl nl_law_is_same__law_told)) (de_tup da_nil (Nat.le_of_ble_eq_true rfl)) (nomark _)))))) ?_ ?_ (fun q5 => ?_)
  · exact db_ret (de_andT (de_cmp (o_eq4 hu) s_eq4 (de_var 0 rfl rfl (.inl nl_law_is_same__law_told)) (de_tup da_nil (Nat.le_of_ble_eq_true rfl)) (nomark _)) (de_one (de_orT (de_cmp o_lt s_lt (de_var 2 rfl rfl (.inl nl_law_is_same__law_start)) de_int (nomark _)) (de_one (de_notT (de_ix (ix_2 hu) s_ix2 (de_var 3 rfl rfl (.inr (.inl nl_law_is_same__law_alive_here))) (de_var 2 rfl rfl (.inl nl_law_is_same__law_start)) (fun _ _ => rfl)))))))
  · exact db_nil (.s (.s (.s (.s (.s (.s (.s (.s (.s (.s (.s (.s (.s .nil)))))))))))))
  refine db_if (J1 := fun (q6 : Unit) => [some v0__law_told, some v1__law_states, some v2__law_start, some v4_alive_here, none, none, none, none, none, none, none, none, none]) (dt_cmp (o_ne4 hu) s_ne4 (de_callB (c_repr3 T.sys hgd hu) s_repr3 nl_law_is_same_repr T.n_repr bt_repr (da_cons (de_fld (de_stat T.m_Demand_of (ok_Demand_of T) hgd (hr.mono (by decide)) nl_law_is_same_Demand T.b_Demand_of (da_cons (de_var 0 rfl rfl (.inl nl_law_is_same__law_told)) da_nil)) (fun n hn => by rw [List.mem_singleton.mp hn]; exact T.fl_Demand_automaton)) da_nil)) (de_callB (c_repr3 T.sys hgd hu) s_repr3 nl_law_is_same_repr T.n_repr bt_repr (da_cons (de_var 0 rfl rfl (.inl nl_law_is_same__law_told)) da_nil)) (nomark _)) ?_ ?_ (fun q6 => ?_)
  · exact db_ret de_bl
  · exact db_nil (.s (.s (.s (.s (.s (.s (.s (.s (.s (.s (.s (.s (.s .nil)))))))))))))
  refine db_par 4 5 rfl sc_law_is_same.nd rfl rfl (by decide) nl_law_is_same__law_seen nl_law_is_same__law_waiting (da_cons (de_dispT hu (de_tup (da_cons de_int (da_cons (de_var 2 rfl rfl (.inl nl_law_is_same__law_start)) da_nil)) (Nat.le_of_ble_eq_true rfl)) de_bl) (da_cons (de_lst (da_cons (de_tup (da_cons de_int (da_cons (de_var 2 rfl rfl (.inl nl_law_is_same__law_start)) da_nil)) (Nat.le_of_ble_eq_true rfl)) da_nil) (Nat.le_of_ble_eq_true rfl)) da_nil)) (fun v7_seen v8_waiting => ?_) (by with_unfolding_all rfl)
  show DB _ _ _ _ [some v0__law_told, some v1__law_states, some v2__law_start, some v4_alive_here, some v7_seen, some v8_waiting, none, none, none, none, none, none, none] _ _
  refine db_while (Jh := fun (q9 : Unit) => [some v0__law_told, some v1__law_states, some v2__law_start, some v4_alive_here, some v7_seen, some v8_waiting, none, none, none, none, none, none, none]) (t := fun q9 => c2 opNe5 (W.pure v8_waiting) (eLstF [])) (b := fun c => l1_law_is_same v8_waiting v1__law_states v4_alive_here v0__law_told v7_seen c) (c0 := ()) PassesOwn.never (fun q9 => ?_) (fun q9 => ?_) (.s (.s (.s (.s (.s (.s (.s (.s (.s (.s (.s (.s (.s .nil))))))))))))) (fun q28 => ?_)
  · exact (dt_cmp (o_ne4 hu) s_ne5 (de_var 5 rfl rfl (.inl nl_law_is_same__law_waiting)) (de_lstF da_nil (Nat.le_of_ble_eq_true rfl)) (nomark _))
  · show DB _ _ _ _ [some v0__law_told, some v1__law_states, some v2__law_start, some v4_alive_here, some v7_seen, some v8_waiting, none, none, none, none, none, none, none] _ (l1_law_is_same v8_waiting v1__law_states v4_alive_here v0__law_told v7_seen q9)
    unfold l1_law_is_same
    refine db_asg (p := .tp [.nm, .nm]) (is := [6, 7]) (dg_tp rfl (dgs_cons (dg_nm 6 sc_law_is_same.nd rfl (.inl nl_law_is_same__law_mine) (.inr nl_law_is_same__law_mine)) (dgs_cons (dg_nm 7 sc_law_is_same.nd rfl (.inl nl_law_is_same__law_theirs) (.inr nl_law_is_same__law_theirs)) dgs_nil))) (de_meth0 PySem.F.plainAttrs_list PySem.F.slot_list_pop PySem.F.type_list_pop ty_list st_list mt_pop s_pop (de_var 5 rfl rfl (.inl nl_law_is_same__law_waiting))) (fun ds10 => ?_)
    show DB _ _ _ _ [some v0__law_told, some v1__law_states, some v2__law_start, some v4_alive_here, some v7_seen, some v8_waiting, some (ds10.getD 0 .non), some (ds10.getD 1 .non), none, none, none, none, none] _ _
    generalize ds10.getD 0 .non = v11_mine
    generalize ds10.getD 1 .non = v12_theirs
    unfold m1_law_is_same
    refine db_letLc (p := .tp [.nm, .nm]) (is := [11, 12]) (own := [("_law_name", 11), ("_law_to_here", 12)]) (mt := fun (ds13 : List D) => (e2 opIx2 (W.pure v4_alive_here) (W.pure (ds13.getD 1 .non))).bind opTru) (me := fun (ds13 : List D) => eTup [W.pure (ds13.getD 0 .non), W.pure (ds13.getD 1 .non)]) 8 rfl sc_law_is_same.nd rfl nl_law_is_same__law_pairs (sw_true rfl nl_law_is_same__law_pairs rfl rfl) (di_seq2 (de_ix (ix_2 hu) s_ix2 (de_ix (ix_2 hu) s_ix2 (de_var 1 rfl rfl (.inl nl_law_is_same__law_states)) (de_var 7 rfl rfl (.inl nl_law_is_same__law_theirs)) (fun _ _ => rfl)) de_int (fun _ _ => rfl))) (by show BlkOk ["_law_told", "_law_states", "_law_start", "_law_alive_here", "_law_seen", "_law_waiting", "_law_mine", "_law_theirs", "_law_pairs", "_law_one", "_law_twin", "_law_name", "_law_to_here"] ⟨_, _, _, _, _⟩ ⟨_, _, _, _, _⟩ [("_law_name", 11), ("_law_to_here", 12)]; exact ⟨rfl, by decide +kernel, by first | decide +kernel | (intro y hy z; exfalso; revert y; decide +kernel), by first | decide +kernel | (intro y hy z; exfalso; revert y; decide +kernel), by first | decide +kernel | (intro y hy z; exfalso; revert y; decide +kernel)⟩) rfl (fun _ _ _ _ _ => (dg_tp rfl (dgs_cons (dg_nm 11 sc_law_is_same.nd rfl (.inl (rl_local (by decide +kernel))) (.inr (rl_local (by decide +kernel)))) (dgs_cons (dg_nm 12 sc_law_is_same.nd rfl (.inl (rl_local (by decide +kernel))) (.inr (rl_local (by decide +kernel)))) dgs_nil)))) (fun _ _ _ _ _ ds13 => by show DTs _ _ [some v0__law_told, some v1__law_states, some v2__law_start, some v4_alive_here, some v7_seen, some v8_waiting, some v11_mine, some v12_theirs, none, none, none, some (ds13.getD 0 .non), some (ds13.getD 1 .non)] _ _; generalize ds13.getD 0 .non = t14_name; generalize ds13.getD 1 .non = t15_to_here; exact (dts_one (dt_val tru_ok s_tru (de_ix (ix_2 hu) s_ix2 (de_var 3 rfl rfl (.inr (.inl (rl_free (by decide +kernel) rfl nl_law_is_same__law_alive_here)))) (de_var 12 rfl rfl (.inl (rl_local (by decide +kernel)))) (fun _ _ => rfl))))) (fun _ _ _ _ _ ds13 => by show DE _ _ [some v0__law_told, some v1__law_states, some v2__law_start, some v4_alive_here, some v7_seen, some v8_waiting, some v11_mine, some v12_theirs, none, none, none, some (ds13.getD 0 .non), some (ds13.getD 1 .non)] _ _; generalize ds13.getD 0 .non = t14_name; generalize ds13.getD 1 .non = t15_to_here; exact (de_tup (da_cons (de_var 11 rfl rfl (.inl (rl_local (by decide +kernel)))) (da_cons (de_var 12 rfl rfl (.inl (rl_local (by decide +kernel)))) da_nil)) (Nat.le_of_ble_eq_true rfl))) (fun v16_pairs => ?_)
    show DB _ _ _ _ [some v0__law_told, some v1__law_states, some v2__law_start, some v4_alive_here, some v7_seen, some v8_waiting, some v11_mine, some v12_theirs, some v16_pairs, none, none, none, none] _ _
    refine db_frzQ 8 rfl (fun v17_pairs => ?_)
    show DB _ _ _ _ [some v0__law_told, some v1__law_states, some v2__law_start, some v4_alive_here, some v7_seen, some v8_waiting, some v11_mine, some v12_theirs, some v17_pairs, none, none, none, none] _ _
    unfold m3_law_is_same m2_law_is_same
    refine db_if (J1 := fun (q22 : Unit) => [some v0__law_told, some v1__law_states, some v2__law_start, some v4_alive_here, some v7_seen, some v8_waiting, some v11_mine, some v12_theirs, some v17_pairs, none, none, none, none]) (DW.dt (dw_or (dt_cmp (o_ne4 hu) s_ne4 (de_ix (ix_2 hu) s_ix2 (de_ix (ix_2 hu) s_ix2 (de_var 0 rfl rfl (.inl nl_law_is_same__law_told)) (de_var 6 rfl rfl (.inl nl_law_is_same__law_mine)) (fun _ _ => rfl)) de_int (fun _ _ => rfl)) (de_ix (ix_2 hu) s_ix2 (de_ix (ix_2 hu) s_ix2 (de_var 1 rfl rfl (.inl nl_law_is_same__law_states)) (de_var 7 rfl rfl (.inl nl_law_is_same__law_theirs)) (fun _ _ => rfl)) de_int (fun _ _ => rfl)) (nomark _)) (dw_one (dt_cmp (o_ne4 hu) s_ne4 (de_frzQ (de_lc (p := .nm) (is := [9]) (own := [("_law_one", 9)]) (mt := fun (ds18 : List D) => W.pure true) (me := fun (ds18 : List D) => e2 opIx2 (W.pure (ds18.getD 0 .non)) (W.pure (.int 0))) rfl sc_law_is_same.nd (di_seq2 (de_ix (ix_2 hu) s_ix2 (de_ix (ix_2 hu) s_ix2 (de_var 0 rfl rfl (.inl nl_law_is_same__law_told)) (de_var 6 rfl rfl (.inl nl_law_is_same__law_mine)) (fun _ _ => rfl)) de_int (fun _ _ => rfl))) (by show BlkOk ["_law_told", "_law_states", "_law_start", "_law_alive_here", "_law_seen", "_law_waiting", "_law_mine", "_law_theirs", "_law_pairs", "_law_one", "_law_twin", "_law_name", "_law_to_here"] ⟨_, _, _, _, _⟩ ⟨_, _, _, _, _⟩ [("_law_one", 9)]; exact ⟨rfl, by decide +kernel, by first | decide +kernel | (intro y hy z; exfalso; revert y; decide +kernel), by first | decide +kernel | (intro y hy z; exfalso; revert y; decide +kernel), by first | decide +kernel | (intro y hy z; exfalso; revert y; decide +kernel)⟩) rfl (fun _ _ _ _ _ => (dg_nm 9 sc_law_is_same.nd rfl (.inl (rl_local (by decide +kernel))) (.inr (rl_local (by decide +kernel))))) (fun _ _ _ _ _ ds18 => by show DTs _ _ [some v0__law_told, some v1__law_states, some v2__law_start, some v4_alive_here, some v7_seen, some v8_waiting, some v11_mine, some v12_theirs, some v17_pairs, some (ds18.getD 0 .non), none, none, none] _ _; generalize ds18.getD 0 .non = t19_one; exact dts_nil) (fun _ _ _ _ _ ds18 => by show DE _ _ [some v0__law_told, some v1__law_states, some v2__law_start, some v4_alive_here, some v7_seen, some v8_waiting, some v11_mine, some v12_theirs, some v17_pairs, some (ds18.getD 0 .non), none, none, none] _ _; generalize ds18.getD 0 .non = t19_one; exact (de_ix (ix_2 hu) s_ix2 (de_var 9 rfl rfl (.inl (rl_local (by decide +kernel)))) de_int (fun _ _ => rfl))))) (de_frzQ (de_lc (p := .nm) (is := [9]) (own := [("_law_one", 9)]) (mt := fun (ds20 : List D) => W.pure true) (me := fun (ds20 : List D) => e2 opIx2 (W.pure (ds20.getD 0 .non)) (W.pure (.int 0))) rfl sc_law_is_same.nd (di_seq2 (de_var 8 rfl rfl (.inl nl_law_is_same__law_pairs))) (by show BlkOk ["_law_told", "_law_states", "_law_start", "_law_alive_here", "_law_seen", "_law_waiting", "_law_mine", "_law_theirs", "_law_pairs", "_law_one", "_law_twin", "_law_name", "_law_to_here"] ⟨_, _, _, _, _⟩ ⟨_, _, _, _, _⟩ [("_law_one", 9)]; exact ⟨rfl, by decide +kernel, by first | decide +kernel | (intro y hy z; exfalso; revert y; decide +kernel), by first | decide +kernel | (intro y hy z; exfalso; revert y; decide +kernel), by first | decide +kernel | (intro y hy z; exfalso; revert y; decide +kernel)⟩) rfl (fun _ _ _ _ _ => (dg_nm 9 sc_law_is_same.nd rfl (.inl (rl_local (by decide +kernel))) (.inr (rl_local (by decide +kernel))))) (fun _ _ _ _ _ ds20 => by show DTs _ _ [some v0__law_told, some v1__law_states, some v2__law_start, some v4_alive_here, some v7_seen, some v8_waiting, some v11_mine, some v12_theirs, some v17_pairs, some (ds20.getD 0 .non), none, none, none] _ _; generalize ds20.getD 0 .non = t21_one; exact dts_nil) (fun _ _ _ _ _ ds20 => by show DE _ _ [some v0__law_told, some v1__law_states, some v2__law_start, some v4_alive_here, some v7_seen, some v8_waiting, some v11_mine, some v12_theirs, some v17_pairs, some (ds20.getD 0 .non), none, none, none] _ _; generalize ds20.getD 0 .non = t21_one; exact (de_ix (ix_2 hu) s_ix2 (de_var 9 rfl rfl (.inl (rl_local (by decide +kernel)))) de_int (fun _ _ => rfl))))) (nomark _))))) ?_ ?_ (fun q22 => ?_)
    · exact db_ret de_bl
    · exact db_nil (.s (.s (.s (.s (.s (.s (.s (.s (.s (.s (.s (.s (.s .nil)))))))))))))
    refine db_for (Jh := fun (q23 : Unit) => [some v0__law_told, some v1__law_states, some v2__law_start, some v4_alive_here, some v7_seen, some v8_waiting, some v11_mine, some v12_theirs, some v17_pairs, none, none, none, none]) (p := .tp [.nm, .nm]) (is := [9, 10]) (b := fun ds26 c => l2_law_is_same v7_seen v8_waiting (ds26.getD 0 .non) (ds26.getD 1 .non) c) (c0 := ()) PassesOwn.never rfl (di_zip nl_law_is_same_zip T.n_zip (da_cons (de_ix (ix_2 hu) s_ix2 (de_ix (ix_2 hu) s_ix2 (de_var 0 rfl rfl (.inl nl_law_is_same__law_told)) (de_var 6 rfl rfl (.inl nl_law_is_same__law_mine)) (fun _ _ => rfl)) de_int (fun _ _ => rfl)) (da_cons (de_var 8 rfl rfl (.inl nl_law_is_same__law_pairs)) da_nil))) (dg_tp rfl (dgs_cons (dg_nm 9 sc_law_is_same.nd rfl (.inl nl_law_is_same__law_one) (.inr nl_law_is_same__law_one)) (dgs_cons (dg_nm 10 sc_law_is_same.nd rfl (.inl nl_law_is_same__law_twin) (.inr nl_law_is_same__law_twin)) dgs_nil))) (fun ds26 q23 => ?_) (.s (.s (.s (.s (.s (.s (.s (.s (.s (.s (.s (.s (.s .nil))))))))))))) (fun q27 => ?_)
    · show DB _ _ _ _ [some v0__law_told, some v1__law_states, some v2__law_start, some v4_alive_here, some v7_seen, some v8_waiting, some v11_mine, some v12_theirs, some v17_pairs, some (ds26.getD 0 .non), some (ds26.getD 1 .non), none, none] _ (l2_law_is_same v7_seen v8_waiting (ds26.getD 0 .non) (ds26.getD 1 .non) q23)
      unfold l2_law_is_same
      generalize ds26.getD 0 .non = t24_one
      generalize ds26.getD 1 .non = t25_twin
      refine db_ifL (dt_cmp (o_nin2 hu) s_nin2 (de_tup (da_cons (de_ix (ix_2 hu) s_ix2 (de_var 9 rfl rfl (.inl nl_law_is_same__law_one)) de_int (fun _ _ => rfl)) (da_cons (de_ix (ix_2 hu) s_ix2 (de_var 10 rfl rfl (.inl nl_law_is_same__law_twin)) de_int (fun _ _ => rfl)) da_nil)) (Nat.le_of_ble_eq_true rfl)) (de_var 4 rfl rfl (.inl nl_law_is_same__law_seen)) (by with_unfolding_all rfl)) ?_ ?_
      · refine db_sub (set_2 hu) s_set2 de_bl (de_var 4 rfl rfl (.inl nl_law_is_same__law_seen)) (de_tup (da_cons (de_ix (ix_2 hu) s_ix2 (de_var 9 rfl rfl (.inl nl_law_is_same__law_one)) de_int (fun _ _ => rfl)) (da_cons (de_ix (ix_2 hu) s_ix2 (de_var 10 rfl rfl (.inl nl_law_is_same__law_twin)) de_int (fun _ _ => rfl)) da_nil)) (Nat.le_of_ble_eq_true rfl)) ?_
        refine db_expr (de_meth PySem.F.plainAttrs_list PySem.F.slot_list_append PySem.F.type_list_append ty_list st_list mt_append s_append (de_var 5 rfl rfl (.inl nl_law_is_same__law_waiting)) (da_cons (de_tup (da_cons (de_ix (ix_2 hu) s_ix2 (de_var 9 rfl rfl (.inl nl_law_is_same__law_one)) de_int (fun _ _ => rfl)) (da_cons (de_ix (ix_2 hu) s_ix2 (de_var 10 rfl rfl (.inl nl_law_is_same__law_twin)) de_int (fun _ _ => rfl)) da_nil)) (Nat.le_of_ble_eq_true rfl)) da_nil)) ?_
        exact db_nil (.s (.s (.s (.s (.s (.s (.s (.s (.s (.n (.n (.s (.s .nil)))))))))))))
      · exact db_nil (.s (.s (.s (.s (.s (.s (.s (.s (.s (.n (.n (.s (.s .nil)))))))))))))
    show DB _ _ _ _ [some v0__law_told, some v1__law_states, some v2__law_start, some v4_alive_here, some v7_seen, some v8_waiting, some v11_mine, some v12_theirs, some v17_pairs, none, none, none, none] _ _
    exact db_nil (.s (.s (.s (.s (.s (.s (.n (.n (.n (.s (.s (.s (.s .nil)))))))))))))
  show DB _ _ _ _ [some v0__law_told, some v1__law_states, some v2__law_start, some v4_alive_here, some v7_seen, some v8_waiting, none, none, none, none, none, none, none] _ _
  exact db_ret de_bl
theorem ok_law_row_right (T : Txt P w K mg Ad Fd base) : FnG P w K mg base CX0 7 (Ad 32) (Fd 32) (["_law_deck_here", "_law_one", "_law_states", "_law_names_here"] : List Str) (spF ⟨K, w, P, mg⟩ 4 (ap4 c_law_row_right)) := by
  refine fng_cast (fng_forget (fng_code (st := top 28) (N := ["_law_deck_here", "_law_one", "_law_states", "_law_names_here", "_law_found", "_law_at", "_law_word", "_law_turn", "_law_name"]) (k := 6) (code := apB4 cb_law_row_right) (Jn := fun _ => List.replicate 9 none) (Jl := fun _ => []) T.f_law_row_right sc_law_row_right fun cdv A outer s H E ds hg hcd hr hl => ?_)) (apG4 cb_law_row_right)
  match ds, hl with
  | [v0__law_deck_here, v1__law_one, v2__law_states, v3__law_names_here], _ =>
  have hgd : (A.deeper (envOfC "_law_row_right" (defScope (top 28)) s.heap.objs.size (Ad 32) cdv)).guards = some [] := hg
  have hu := hr.units
  replace hcd := code_kds hcd
  show DB _ _ _ _ [some v0__law_deck_here, some v1__law_one, some v2__law_states, some v3__law_names_here, none, none, none, none, none] _ (cb_law_row_right v0__law_deck_here v1__law_one v2__law_states v3__law_names_here)
  unfold cb_law_row_right
  refine db_par3 4 5 6 rfl sc_law_row_right.nd rfl rfl rfl (by decide) (by decide) (by decide) nl_law_row_right__law_found nl_law_row_right__law_at nl_law_row_right__law_word (da_cons (de_var 1 rfl rfl (.inl nl_law_row_right__law_one)) (da_cons (de_callB (call_min2 rfl) s_min2 nl_law_row_right_min T.n_min bt_min (da_cons de_int (da_cons (de_bin op_sub s_sub (de_callB c_len2 s_len2 nl_law_row_right_len T.n_len bt_len (da_cons (de_var 2 rfl rfl (.inl nl_law_row_right__law_states)) da_nil)) de_int) da_nil))) (da_cons (de_tup da_nil (Nat.le_of_ble_eq_true rfl)) da_nil))) (fun v5_found v6_at v7_word => ?_) (by with_unfolding_all rfl)
  show DB _ _ _ _ [some v0__law_deck_here, some v1__law_one, some v2__law_states, some v3__law_names_here, some v5_found, some v6_at, some v7_word, none, none] _ _
  refine db_for (Jh := fun (q8 : D × D × D) => [some v0__law_deck_here, some v1__law_one, some v2__law_states, some v3__law_names_here, some q8.2.1, some q8.1, some q8.2.2, none, none]) (p := .nm) (is := [7]) (b := fun ds10 c => l1_law_row_right v0__law_deck_here v3__law_names_here v2__law_states v1__law_one (ds10.getD 0 .non) c) (c0 := (v6_at, v5_found, v7_word)) PassesOwn.never rfl (di_range1 nl_law_row_right_range T.n_range (da_cons (de_callG (ok_law_draw T) hgd (hr.mono (by decide)) nl_law_row_right__law_draw T.g_law_draw T.f_law_draw.kp T.b_law_draw (da_cons (de_var 0 rfl rfl (.inl nl_law_row_right__law_deck_here)) (da_cons de_int da_nil))) da_nil)) (dg_nm 7 sc_law_row_right.nd rfl (.inl nl_law_row_right__law_turn) (.inr nl_law_row_right__law_turn)) (fun ds10 q8 => ?_) (.s (.s (.s (.s (.s (.s (.s (.s (.s .nil))))))))) (fun q18 => ?_)
  · show DB _ _ _ _ [some v0__law_deck_here, some v1__law_one, some v2__law_states, some v3__law_names_here, some q8.2.1, some q8.1, some q8.2.2, some (ds10.getD 0 .non), none] _ (l1_law_row_right v0__law_deck_here v3__law_names_here v2__law_states v1__law_one (ds10.getD 0 .non) q8)
    unfold l1_law_row_right
    generalize ds10.getD 0 .non = t9_turn
    refine db_let 8 sc_law_row_right.nd rfl (.inl nl_law_row_right__law_name) (de_callG (ok_law_pick T) hgd (hr.mono (by decide)) nl_law_row_right__law_pick T.g_law_pick T.f_law_pick.kp T.b_law_pick (da_cons (de_var 0 rfl rfl (.inl nl_law_row_right__law_deck_here)) (da_cons (de_var 3 rfl rfl (.inl nl_law_row_right__law_names_here)) da_nil))) (fun v11_name => ?_) (hf := (.inr nl_law_row_right__law_name))
    show DB _ _ _ _ [some v0__law_deck_here, some v1__law_one, some v2__law_states, some v3__law_names_here, some q8.2.1, some q8.1, some q8.2.2, some t9_turn, some v11_name] _ _
    refine db_if (J1 := fun (q12 : D) => [some v0__law_deck_here, some v1__law_one, some v2__law_states, some v3__law_names_here, some q8.2.1, some q8.1, some q8.2.2, some t9_turn, some q12]) (DW.dt (dw_and (dt_cmp op_ge s_ge (de_var 5 rfl rfl (.inl nl_law_row_right__law_at)) de_int (nomark _)) (dw_and (dt_cmp (o_ne4 hu) s_ne4 (de_ix (ix_2 hu) s_ix2 (de_ix (ix_2 hu) s_ix2 (de_var 2 rfl rfl (.inl nl_law_row_right__law_states)) (de_var 5 rfl rfl (.inl nl_law_row_right__law_at)) (fun _ _ => rfl)) de_int (fun _ _ => rfl)) (de_tup da_nil (Nat.le_of_ble_eq_true rfl)) (nomark _)) (dw_one (dt_cmp op_gt s_gt (de_callG (ok_law_draw T) hgd (hr.mono (by decide)) nl_law_row_right__law_draw T.g_law_draw T.f_law_draw.kp T.b_law_draw (da_cons (de_var 0 rfl rfl (.inl nl_law_row_right__law_deck_here)) (da_cons de_int da_nil))) de_int (nomark _)))))) ?_ ?_ (fun q12 => ?_)
    · refine db_let 8 sc_law_row_right.nd rfl (.inl nl_law_row_right__law_name) (de_ix (ix_2 hu) s_ix2 (de_callG (ok_law_pick T) hgd (hr.mono (by decide)) nl_law_row_right__law_pick T.g_law_pick T.f_law_pick.kp T.b_law_pick (da_cons (de_var 0 rfl rfl (.inl nl_law_row_right__law_deck_here)) (da_cons (de_ix (ix_2 hu) s_ix2 (de_ix (ix_2 hu) s_ix2 (de_var 2 rfl rfl (.inl nl_law_row_right__law_states)) (de_var 5 rfl rfl (.inl nl_law_row_right__law_at)) (fun _ _ => rfl)) de_int (fun _ _ => rfl)) da_nil))) de_int (fun _ _ => rfl)) (fun v13_name => ?_) (hf := (.inr nl_law_row_right__law_name))
      show DB _ _ _ _ [some v0__law_deck_here, some v1__law_one, some v2__law_states, some v3__law_names_here, some q8.2.1, some q8.1, some q8.2.2, some t9_turn, some v13_name] _ _
      exact db_nil (.s (.s (.s (.s (.s (.s (.s (.s (.s .nil)))))))))
    · exact db_nil (.s (.s (.s (.s (.s (.s (.s (.s (.s .nil)))))))))
    refine db_par3 4 5 6 rfl sc_law_row_right.nd rfl rfl rfl (by decide) (by decide) (by decide) nl_law_row_right__law_found nl_law_row_right__law_at nl_law_row_right__law_word (da_cons (de_methC T.m_Demand_behind (de_var 4 rfl rfl (.inl nl_law_row_right__law_found)) (ok_Demand_behind T) hgd (hr.mono (by decide)) T.b_Demand_behind (da_cons (de_var 8 rfl rfl (.inl nl_law_row_right__law_name)) da_nil)) (da_cons (de_callG (ok_law_to T) hgd (hr.mono (by decide)) nl_law_row_right__law_to T.g_law_to T.f_law_to.kp T.b_law_to (da_cons (de_var 2 rfl rfl (.inl nl_law_row_right__law_states)) (da_cons (de_var 5 rfl rfl (.inl nl_law_row_right__law_at)) (da_cons (de_var 8 rfl rfl (.inl nl_law_row_right__law_name)) da_nil)))) (da_cons (de_addF3 (de_var 6 rfl rfl (.inl nl_law_row_right__law_word)) (de_tup (da_cons (de_var 8 rfl rfl (.inl nl_law_row_right__law_name)) da_nil) (Nat.le_of_ble_eq_true rfl))) da_nil))) (fun v14_found v15_at v16_word => ?_) (by with_unfolding_all rfl)
    show DB _ _ _ _ [some v0__law_deck_here, some v1__law_one, some v2__law_states, some v3__law_names_here, some v14_found, some v15_at, some v16_word, some t9_turn, some q12] _ _
    refine db_if (J1 := fun (q17 : Unit) => [some v0__law_deck_here, some v1__law_one, some v2__law_states, some v3__law_names_here, some v14_found, some v15_at, some v16_word, some t9_turn, some q12]) (DW.dt (dw_or (dt_not (dt_val tru_ok s_tru (de_isiOwn T.is_Demand (de_var 4 rfl rfl (.inl nl_law_row_right__law_found)) nl_law_row_right_isinstance T.n_isinstance nl_law_row_right_Demand))) (dw_one (dt_not (dt_val tru_ok s_tru (de_callG (ok_law_is_same T) hgd (hr.mono (by decide)) nl_law_row_right__law_is_same T.g_law_is_same T.f_law_is_same.kp T.b_law_is_same (da_cons (de_fld (de_var 4 rfl rfl (.inl nl_law_row_right__law_found)) (fun n hn => by rw [List.mem_singleton.mp hn]; exact T.fl_Demand_automaton)) (da_cons (de_var 2 rfl rfl (.inl nl_law_row_right__law_states)) (da_cons (de_var 5 rfl rfl (.inl nl_law_row_right__law_at)) da_nil))))))))) ?_ ?_ (fun q17 => ?_)
    · exact db_ret de_bl
    · exact db_nil (.s (.s (.s (.s (.s (.s (.s (.s (.s .nil)))))))))
    refine db_ifL (DW.dt (dw_or (dt_not (dt_val tru_ok s_tru (de_callG (ok_law_fields_right T) hgd (hr.mono (by decide)) nl_law_row_right__law_fields_right T.g_law_fields_right T.f_law_fields_right.kp T.b_law_fields_right (da_cons (de_var 4 rfl rfl (.inl nl_law_row_right__law_found)) (da_cons (de_var 2 rfl rfl (.inl nl_law_row_right__law_states)) (da_cons (de_var 5 rfl rfl (.inl nl_law_row_right__law_at)) da_nil)))))) (dw_one (dt_cmp (o_ne4 hu) s_ne4 (de_cmp (o_inOwn T.m_Demand_contains (ok_Demand_contains T) hgd (hr.mono (by decide)) T.b_Demand_contains pass0) s_inOwn (de_var 6 rfl rfl (.inl nl_law_row_right__law_word)) (de_var 1 rfl rfl (.inl nl_law_row_right__law_one)) (by with_unfolding_all rfl)) (de_cmp (o_inOwn T.m_Demand_contains (ok_Demand_contains T) hgd (hr.mono (by decide)) T.b_Demand_contains pass0) s_inOwn (de_tup da_nil (Nat.le_of_ble_eq_true rfl)) (de_var 4 rfl rfl (.inl nl_law_row_right__law_found)) (by with_unfolding_all rfl)) (nomark _))))) ?_ ?_
    · exact db_ret de_bl
    · exact db_nil (.s (.s (.s (.s (.s (.s (.s (.n (.n .nil)))))))))
  show DB _ _ _ _ [some v0__law_deck_here, some v1__law_one, some v2__law_states, some v3__law_names_here, some q18.2.1, some q18.1, some q18.2.2, none, none] _ _
  exact db_ret de_bl
theorem ok_law (T : Txt P w K mg Ad Fd base) : FnG P w K mg base CX0 8 (Ad 33) (Fd 33) (["_law_script"] : List Str) (spF ⟨K, w, P, mg⟩ 1 (ap1 c_law)) := by
  refine fng_cast (fng_forget (fng_code (st := top 29) (N := ["_law_script", "_law_deck_here", "_law_turn", "_law_names_here", "_law_states", "_law_one", "_law_start", "_law_kept", "_law_name", "_law_found", "_law_k"]) (k := 7) (code := apB1 cb_law) (Jn := fun _ => List.replicate 11 none) (Jl := fun _ => []) T.f_law sc_law fun cdv A outer s H E ds hg hcd hr hl => ?_)) (apG1 cb_law)
  match ds, hl with
  | [v0__law_script], _ =>
  have hgd : (A.deeper (envOfC "law" (defScope (top 29)) s.heap.objs.size (Ad 33) cdv)).guards = some [] := hg
  have hu := hr.units
  replace hcd := code_kds hcd
  show DB _ _ _ _ [some v0__law_script, none, none, none, none, none, none, none, none, none, none] _ (cb_law v0__law_script)
  unfold cb_law
  refine db_let 1 sc_law.nd rfl (.inl nl_law__law_deck_here) (de_callG (ok_law_deck T) hgd (hr.mono (by decide)) nl_law__law_deck T.g_law_deck T.f_law_deck.kp T.b_law_deck (da_cons (de_var 0 rfl rfl (.inl nl_law__law_script)) da_nil)) (fun v2_deck_here => ?_) (hf := (.inr nl_law__law_deck_here))
  show DB _ _ _ _ [some v0__law_script, some v2_deck_here, none, none, none, none, none, none, none, none, none] _ _
  refine db_for (Jh := fun (q3 : Unit) => [some v0__law_script, some v2_deck_here, none, none, none, none, none, none, none, none, none]) (p := .nm) (is := [2]) (b := fun ds5 c => l1_law v2_deck_here (ds5.getD 0 .non) c) (c0 := ()) PassesOwn.never rfl (di_range1 nl_law_range T.n_range (da_cons de_int da_nil)) (dg_nm 2 sc_law.nd rfl (.inl nl_law__law_turn) (.inr nl_law__law_turn)) (fun ds5 q3 => ?_) (.s (.s (.s (.s (.s (.s (.s (.s (.s (.s (.s .nil))))))))))) (fun q22 => ?_)
  · show DB _ _ _ _ [some v0__law_script, some v2_deck_here, some (ds5.getD 0 .non), none, none, none, none, none, none, none, none] _ (l1_law v2_deck_here (ds5.getD 0 .non) q3)
    unfold l1_law
    generalize ds5.getD 0 .non = t4_turn
    refine db_let 3 sc_law.nd rfl (.inl nl_law__law_names_here) (de_callG (ok_law_names T) hgd (hr.mono (by decide)) nl_law__law_names T.g_law_names T.f_law_names.kp T.b_law_names (da_cons (de_var 1 rfl rfl (.inl nl_law__law_deck_here)) (da_cons (de_addF3 de_int (de_callG (ok_law_draw T) hgd (hr.mono (by decide)) nl_law__law_draw T.g_law_draw T.f_law_draw.kp T.b_law_draw (da_cons (de_var 1 rfl rfl (.inl nl_law__law_deck_here)) (da_cons de_int da_nil)))) da_nil))) (fun v6_names_here => ?_) (hf := (.inr nl_law__law_names_here))
    show DB _ _ _ _ [some v0__law_script, some v2_deck_here, some t4_turn, some v6_names_here, none, none, none, none, none, none, none] _ _
    refine db_let 4 sc_law.nd rfl (.inl nl_law__law_states) (de_callG (ok_law_automaton T) hgd (hr.mono (by decide)) nl_law__law_automaton T.g_law_automaton T.f_law_automaton.kp T.b_law_automaton (da_cons (de_var 1 rfl rfl (.inl nl_law__law_deck_here)) (da_cons (de_slF (de_var 3 rfl rfl (.inl nl_law__law_names_here)) do_none (do_some (de_un un_neg s_neg de_int))) (da_cons de_int da_nil)))) (fun v7_states => ?_) (hf := (.inr nl_law__law_states))
    show DB _ _ _ _ [some v0__law_script, some v2_deck_here, some t4_turn, some v6_names_here, some v7_states, none, none, none, none, none, none] _ _
    refine db_par 5 6 rfl sc_law.nd rfl rfl (by decide) nl_law__law_one nl_law__law_start (da_cons (de_stat T.m_Demand_of (ok_Demand_of T) hgd (hr.mono (by decide)) nl_law_Demand T.b_Demand_of (da_cons (de_var 4 rfl rfl (.inl nl_law__law_states)) da_nil)) (da_cons (de_callB (call_min2 rfl) s_min2 nl_law_min T.n_min bt_min (da_cons de_int (da_cons (de_bin op_sub s_sub (de_callB c_len2 s_len2 nl_law_len T.n_len bt_len (da_cons (de_var 4 rfl rfl (.inl nl_law__law_states)) da_nil)) de_int) da_nil))) da_nil)) (fun v8_one v9_start => ?_) (by with_unfolding_all rfl)
    show DB _ _ _ _ [some v0__law_script, some v2_deck_here, some t4_turn, some v6_names_here, some v7_states, some v8_one, some v9_start, none, none, none, none] _ _
    refine db_let 7 sc_law.nd rfl (.inl nl_law__law_kept) (de_callB (c_repr3 T.sys hgd hu) s_repr3 nl_law_repr T.n_repr bt_repr (da_cons (de_fld (de_var 5 rfl rfl (.inl nl_law__law_one)) (fun n hn => by rw [List.mem_singleton.mp hn]; exact T.fl_Demand_automaton)) da_nil)) (fun v10_kept => ?_) (hf := (.inr nl_law__law_kept))
    show DB _ _ _ _ [some v0__law_script, some v2_deck_here, some t4_turn, some v6_names_here, some v7_states, some v8_one, some v9_start, some v10_kept, none, none, none] _ _
    refine db_if (J1 := fun (q11 : Unit) => [some v0__law_script, some v2_deck_here, some t4_turn, some v6_names_here, some v7_states, some v8_one, some v9_start, some v10_kept, none, none, none]) (dt_not (dt_val tru_ok s_tru (de_callG (ok_law_fields_right T) hgd (hr.mono (by decide)) nl_law__law_fields_right T.g_law_fields_right T.f_law_fields_right.kp T.b_law_fields_right (da_cons (de_var 5 rfl rfl (.inl nl_law__law_one)) (da_cons (de_var 4 rfl rfl (.inl nl_law__law_states)) (da_cons (de_var 6 rfl rfl (.inl nl_law__law_start)) da_nil)))))) ?_ ?_ (fun q11 => ?_)
    · exact db_ret de_bl
    · exact db_nil (.s (.s (.s (.s (.s (.s (.s (.s (.s (.s (.s .nil)))))))))))
    refine db_for (Jh := fun (q12 : Unit) => [some v0__law_script, some v2_deck_here, some t4_turn, some v6_names_here, some v7_states, some v8_one, some v9_start, some v10_kept, none, none, none]) (p := .nm) (is := [8]) (b := fun ds14 c => l2_law v8_one v7_states v9_start (ds14.getD 0 .non) c) (c0 := ()) PassesOwn.never rfl (di_seq2 (de_var 3 rfl rfl (.inl nl_law__law_names_here))) (dg_nm 8 sc_law.nd rfl (.inl nl_law__law_name) (.inr nl_law__law_name)) (fun ds14 q12 => ?_) (.s (.s (.s (.s (.s (.s (.s (.s (.s (.s (.s .nil))))))))))) (fun q17 => ?_)
    · show DB _ _ _ _ [some v0__law_script, some v2_deck_here, some t4_turn, some v6_names_here, some v7_states, some v8_one, some v9_start, some v10_kept, some (ds14.getD 0 .non), none, none] _ (l2_law v8_one v7_states v9_start (ds14.getD 0 .non) q12)
      unfold l2_law
      generalize ds14.getD 0 .non = t13_name
      refine db_let 9 sc_law.nd rfl (.inl nl_law__law_found) (de_methC T.m_Demand_behind (de_var 5 rfl rfl (.inl nl_law__law_one)) (ok_Demand_behind T) hgd (hr.mono (by decide)) T.b_Demand_behind (da_cons (de_var 8 rfl rfl (.inl nl_law__law_name)) da_nil)) (fun v15_found => ?_) (hf := (.inr nl_law__law_found))
      show DB _ _ _ _ [some v0__law_script, some v2_deck_here, some t4_turn, some v6_names_here, some v7_states, some v8_one, some v9_start, some v10_kept, some t13_name, some v15_found, none] _ _
      refine db_if (J1 := fun (q16 : Unit) => [some v0__law_script, some v2_deck_here, some t4_turn, some v6_names_here, some v7_states, some v8_one, some v9_start, some v10_kept, some t13_name, some v15_found, none]) (dt_not (dt_val tru_ok s_tru (de_callG (ok_law_is_same T) hgd (hr.mono (by decide)) nl_law__law_is_same T.g_law_is_same T.f_law_is_same.kp T.b_law_is_same (da_cons (de_fld (de_var 9 rfl rfl (.inl nl_law__law_found)) (fun n hn => by rw [List.mem_singleton.mp hn]; exact T.fl_Demand_automaton)) (da_cons (de_var 4 rfl rfl (.inl nl_law__law_states)) (da_cons (de_callG (ok_law_to T) hgd (hr.mono (by decide)) nl_law__law_to T.g_law_to T.f_law_to.kp T.b_law_to (da_cons (de_var 4 rfl rfl (.inl nl_law__law_states)) (da_cons (de_var 6 rfl rfl (.inl nl_law__law_start)) (da_cons (de_var 8 rfl rfl (.inl nl_law__law_name)) da_nil)))) da_nil)))))) ?_ ?_ (fun q16 => ?_)
      · exact db_ret de_bl
      · exact db_nil (.s (.s (.s (.s (.s (.s (.s (.s (.s (.s (.s .nil)))))))))))
      refine db_ifL (DW.dt (dw_or (dt_not (dt_cmp (o_eqOwn T.m_Demand_eq (ok_Demand_eq T) hgd (hr.mono (by decide)) T.b_Demand_eq pass0) s_eqOwn (de_methK0 T.m_Demand_behind (de_var 5 rfl rfl (.inl nl_law__law_one)) (ok_Demand_behind T) hgd (hr.mono (by decide)) T.kw_0 (dk_cons (de_var 8 rfl rfl (.inl nl_law__law_name)) dk_nil) rfl rfl rfl) (de_var 9 rfl rfl (.inl nl_law__law_found)) (nomark _))) (dw_one (dt_cmp (o_ne4 hu) s_ne4 (de_callT (cr_boolOwn T.m_Demand_bool (ok_Demand_bool T) hgd (hr.mono (by decide)) T.b_Demand_bool) s_boolOwn nl_law_bool T.n_bool bt_bool (da_cons (de_var 9 rfl rfl (.inl nl_law__law_found)) da_nil)) (de_cmp (o_in2 hu) s_in2 (de_var 8 rfl rfl (.inl nl_law__law_name)) (de_prop T.m_Demand_fields (de_var 5 rfl rfl (.inl nl_law__law_one)) (ok_Demand_fields T) hgd (hr.mono (by decide)) T.b_Demand_fields) (by with_unfolding_all rfl)) (nomark _))))) ?_ ?_
      · exact db_ret de_bl
      · exact db_nil (.s (.s (.s (.s (.s (.s (.s (.s (.n (.n (.s .nil)))))))))))
    show DB _ _ _ _ [some v0__law_script, some v2_deck_here, some t4_turn, some v6_names_here, some v7_states, some v8_one, some v9_start, some v10_kept, none, none, none] _ _
    refine db_for (Jh := fun (q18 : Unit) => [some v0__law_script, some v2_deck_here, some t4_turn, some v6_names_here, some v7_states, some v8_one, some v9_start, some v10_kept, none, none, none]) (p := .nm) (is := [10]) (b := fun ds20 c => l3_law v2_deck_here v8_one v7_states v6_names_here (ds20.getD 0 .non) c) (c0 := ()) PassesOwn.never rfl (di_range1 nl_law_range T.n_range (da_cons de_int da_nil)) (dg_nm 10 sc_law.nd rfl (.inl nl_law__law_k) (.inr nl_law__law_k)) (fun ds20 q18 => ?_) (.s (.s (.s (.s (.s (.s (.s (.s (.s (.s (.s .nil))))))))))) (fun q21 => ?_)
    · show DB _ _ _ _ [some v0__law_script, some v2_deck_here, some t4_turn, some v6_names_here, some v7_states, some v8_one, some v9_start, some v10_kept, none, none, some (ds20.getD 0 .non)] _ (l3_law v2_deck_here v8_one v7_states v6_names_here (ds20.getD 0 .non) q18)
      unfold l3_law
      generalize ds20.getD 0 .non = t19_k
      refine db_ifL (dt_not (dt_val tru_ok s_tru (de_callG (ok_law_row_right T) hgd (hr.mono (by decide)) nl_law__law_row_right T.g_law_row_right T.f_law_row_right.kp T.b_law_row_right (da_cons (de_var 1 rfl rfl (.inl nl_law__law_deck_here)) (da_cons (de_var 5 rfl rfl (.inl nl_law__law_one)) (da_cons (de_var 4 rfl rfl (.inl nl_law__law_states)) (da_cons (de_var 3 rfl rfl (.inl nl_law__law_names_here)) da_nil))))))) ?_ ?_
      · exact db_ret de_bl
      · exact db_nil (.s (.s (.s (.s (.s (.s (.s (.s (.s (.s (.n .nil)))))))))))
    show DB _ _ _ _ [some v0__law_script, some v2_deck_here, some t4_turn, some v6_names_here, some v7_states, some v8_one, some v9_start, some v10_kept, none, none, none] _ _
    refine db_ifL (dt_cmp (o_ne4 hu) s_ne4 (de_callB (c_repr3 T.sys hgd hu) s_repr3 nl_law_repr T.n_repr bt_repr (da_cons (de_fld (de_var 5 rfl rfl (.inl nl_law__law_one)) (fun n hn => by rw [List.mem_singleton.mp hn]; exact T.fl_Demand_automaton)) da_nil)) (de_var 7 rfl rfl (.inl nl_law__law_kept)) (nomark _)) ?_ ?_
    · exact db_ret de_bl
    · exact db_nil (.s (.s (.n (.n (.n (.n (.n (.n (.s (.s (.s .nil)))))))))))
  show DB _ _ _ _ [some v0__law_script, some v2_deck_here, none, none, none, none, none, none, none, none, none] _ _
  exact db_ret de_bl
end
set_option maxHeartbeats 0 in
theorem all_mk {l : PySem.W.OpenLaw} {w : World} {K : PySem.W.Frag} {h : Heap} {mg : Str → Option Value} {fa : Addr} {f0 : Addr} {od0 an0 : Option Addr} {sl0 : Array (Option Value)} {oc0 kV0 dc0 pm0 cd0 ct0 : Value} {f1 : Addr} {od1 an1 : Option Addr} {sl1 : Array (Option Value)} {oc1 kV1 dc1 pm1 cd1 ct1 : Value} {f2 : Addr} {od2 an2 : Option Addr} {sl2 : Array (Option Value)} {oc2 kV2 dc2 pm2 cd2 ct2 : Value} {f4 : Addr} {od4 an4 : Option Addr} {sl4 : Array (Option Value)} {oc4 kV4 dc4 pm4 cd4 ct4 : Value} {f5 : Addr} {od5 an5 : Option Addr} {sl5 : Array (Option Value)} {oc5 kV5 dc5 pm5 cd5 ct5 : Value} {f6 : Addr} {od6 an6 : Option Addr} {sl6 : Array (Option Value)} {oc6 kV6 dc6 pm6 cd6 ct6 : Value} {f8 : Addr} {od8 an8 : Option Addr} {sl8 : Array (Option Value)} {oc8 kV8 dc8 pm8 cd8 ct8 : Value} {f9 : Addr} {od9 an9 : Option Addr} {sl9 : Array (Option Value)} {oc9 kV9 dc9 pm9 cd9 ct9 : Value} {f18 : Addr} {od18 an18 : Option Addr} {sl18 : Array (Option Value)} {oc18 kV18 dc18 pm18 cd18 ct18 : Value} {f23 : Addr} {od23 an23 : Option Addr} {sl23 : Array (Option Value)} {oc23 kV23 dc23 pm23 cd23 ct23 : Value} {f24 : Addr} {od24 an24 : Option Addr} {sl24 : Array (Option Value)} {oc24 kV24 dc24 pm24 cd24 ct24 : Value} {f28 : Addr} {od28 an28 : Option Addr} {sl28 : Array (Option Value)} {oc28 kV28 dc28 pm28 cd28 ct28 : Value} {f29 : Addr} {od29 an29 : Option Addr} {sl29 : Array (Option Value)} {oc29 kV29 dc29 pm29 cd29 ct29 : Value} {f3 : Addr} {od3 an3 : Option Addr} {sl3 : Array (Option Value)} {oc3 kV3 dc3 pm3 cd3 ct3 : Value} {f7 : Addr} {od7 an7 : Option Addr} {sl7 : Array (Option Value)} {oc7 kV7 dc7 pm7 cd7 ct7 : Value} {f10 : Addr} {od10 an10 : Option Addr} {sl10 : Array (Option Value)} {oc10 kV10 dc10 pm10 cd10 ct10 : Value} {f21 : Addr} {od21 an21 : Option Addr} {sl21 : Array (Option Value)} {oc21 kV21 dc21 pm21 cd21 ct21 : Value} {pp21 : Addr} {pr21 : List Value} {f25 : Addr} {od25 an25 : Option Addr} {sl25 : Array (Option Value)} {oc25 kV25 dc25 pm25 cd25 ct25 : Value} {f27 : Addr} {od27 an27 : Option Addr} {sl27 : Array (Option Value)} {oc27 kV27 dc27 pm27 cd27 ct27 : Value} {f11 : Addr} {od11 an11 : Option Addr} {sl11 : Array (Option Value)} {oc11 kV11 dc11 pm11 cd11 ct11 : Value} {f17 : Addr} {od17 an17 : Option Addr} {sl17 : Array (Option Value)} {oc17 kV17 dc17 pm17 cd17 ct17 : Value} {f26 : Addr} {od26 an26 : Option Addr} {sl26 : Array (Option Value)} {oc26 kV26 dc26 pm26 cd26 ct26 : Value} {f31 : Addr} {od31 an31 : Option Addr} {sl31 : Array (Option Value)} {oc31 kV31 dc31 pm31 cd31 ct31 : Value} {f12 : Addr} {od12 an12 : Option Addr} {sl12 : Array (Option Value)} {oc12 kV12 dc12 pm12 cd12 ct12 : Value} {pp12 : Addr} {pr12 : List Value} {f13 : Addr} {od13 an13 : Option Addr} {sl13 : Array (Option Value)} {oc13 kV13 dc13 pm13 cd13 ct13 : Value} {f20 : Addr} {od20 an20 : Option Addr} {sl20 : Array (Option Value)} {oc20 kV20 dc20 pm20 cd20 ct20 : Value} {f30 : Addr} {od30 an30 : Option Addr} {sl30 : Array (Option Value)} {oc30 kV30 dc30 pm30 cd30 ct30 : Value} {f32 : Addr} {od32 an32 : Option Addr} {sl32 : Array (Option Value)} {oc32 kV32 dc32 pm32 cd32 ct32 : Value} {f33 : Addr} {od33 an33 : Option Addr} {sl33 : Array (Option Value)} {oc33 kV33 dc33 pm33 cd33 ct33 : Value} {C_Demand : Addr} {u_BOTH : Value} {u_EITHER : Value} {u_FIRST_ALONE : Value} {u_NOWHERE : Value} (X : K.In h) (G : h.Ns mainGlobals mg) (hfa : mg "law" = some (.ref fa))
    (aC_Demand : PySem.W.nsIn K mainGlobals "Demand" = some (some (.ref C_Demand))) (cg_Demand : PySem.W.plainGet K C_Demand Str.empty = true) (ch_Demand : PySem.W.hasDictIn K C_Demand = true) (co_Demand : PySem.W.plainOver K C_Demand = true) (cs_Demand : PySem.W.findIn K (.ref C_Demand) "__setattr__" = some (some (.builtin "object.__setattr__")))
    (rd_Demand : PySem.W.readsIn K C_Demand (.type "type") = true) (ga_Demand : PySem.W.specialIn K (.ref C_Demand) "__getattribute__" = some (some (.builtin "type.__getattribute__")))
    (ic_Demand : PySem.W.findIn K (.ref C_Demand) "__class__" = some (some (.builtin "object.__class__"))) (ig_Demand : PySem.W.specialIn K (.builtin "object.__class__") "__get__" = some (some (.builtin "getset_descriptor.__get__"))) (it_Demand : PySem.W.takesIn K (.builtin "object.__class__") = some true) (im_Demand : PySem.W.mroIn K C_Demand (.type "object") = some true)
    (cm_Demand : PySem.W.makesIn K C_Demand = true) (ck_Demand : PySem.W.keepIn K (.ref C_Demand) = true)
    (cn_Demand_automaton : PySem.W.findIn K (.ref C_Demand) "automaton" = some none)
    (a0 : PySem.W.nsIn K mainGlobals "_wall" = some (some (.ref f0))) (l0 : K.lookup f0 = some ⟨oc0, od0, .func (PySem.W.fnOf "_wall" "_wall" (defArgs (top 0)) (defBody (top 0)) (defScope (top 0)) .none kV0 dc0 pm0 an0 cd0 ct0), sl0⟩) (c0 : PySem.W.codeIn K cd0 "_wall" = true) (k0 : PySem.W.keepIn K (.ref f0) = true)
    (a1 : PySem.W.nsIn K mainGlobals "lively_states" = some (some (.ref f1))) (l1 : K.lookup f1 = some ⟨oc1, od1, .func (PySem.W.fnOf "lively_states" "lively_states" (defArgs (top 6)) (defBody (top 6)) (defScope (top 6)) .none kV1 dc1 pm1 an1 cd1 ct1), sl1⟩) (c1 : PySem.W.codeIn K cd1 "lively_states" = true) (k1 : PySem.W.keepIn K (.ref f1) = true)
    (a2 : PySem.W.nsIn K mainGlobals "classes_of" = some (some (.ref f2))) (l2 : K.lookup f2 = some ⟨oc2, od2, .func (PySem.W.fnOf "classes_of" "classes_of" (defArgs (top 7)) (defBody (top 7)) (defScope (top 7)) .none kV2 dc2 pm2 an2 cd2 ct2), sl2⟩) (c2 : PySem.W.codeIn K cd2 "classes_of" = true) (k2 : PySem.W.keepIn K (.ref f2) = true)
    (a4 : PySem.W.nsIn K mainGlobals "first_of" = some (some (.ref f4))) (l4 : K.lookup f4 = some ⟨oc4, od4, .func (PySem.W.fnOf "first_of" "first_of" (defArgs (top 9)) (defBody (top 9)) (defScope (top 9)) .none kV4 dc4 pm4 an4 cd4 ct4), sl4⟩) (c4 : PySem.W.codeIn K cd4 "first_of" = true) (k4 : PySem.W.keepIn K (.ref f4) = true)
    (a5 : PySem.W.nsIn K mainGlobals "edges_at" = some (some (.ref f5))) (l5 : K.lookup f5 = some ⟨oc5, od5, .func (PySem.W.fnOf "edges_at" "edges_at" (defArgs (top 10)) (defBody (top 10)) (defScope (top 10)) .none kV5 dc5 pm5 an5 cd5 ct5), sl5⟩) (c5 : PySem.W.codeIn K cd5 "edges_at" = true) (k5 : PySem.W.keepIn K (.ref f5) = true)
    (a6 : PySem.W.nsIn K mainGlobals "ends_at" = some (some (.ref f6))) (l6 : K.lookup f6 = some ⟨oc6, od6, .func (PySem.W.fnOf "ends_at" "ends_at" (defArgs (top 11)) (defBody (top 11)) (defScope (top 11)) .none kV6 dc6 pm6 an6 cd6 ct6), sl6⟩) (c6 : PySem.W.codeIn K cd6 "ends_at" = true) (k6 : PySem.W.keepIn K (.ref f6) = true)
    (a8 : PySem.W.nsIn K mainGlobals "rooted" = some (some (.ref f8))) (l8 : K.lookup f8 = some ⟨oc8, od8, .func (PySem.W.fnOf "rooted" "rooted" (defArgs (top 13)) (defBody (top 13)) (defScope (top 13)) .none kV8 dc8 pm8 an8 cd8 ct8), sl8⟩) (c8 : PySem.W.codeIn K cd8 "rooted" = true) (k8 : PySem.W.keepIn K (.ref f8) = true)
    (a9 : PySem.W.nsIn K mainGlobals "is_ending" = some (some (.ref f9))) (l9 : K.lookup f9 = some ⟨oc9, od9, .func (PySem.W.fnOf "is_ending" "is_ending" (defArgs (top 14)) (defBody (top 14)) (defScope (top 14)) .none kV9 dc9 pm9 an9 cd9 ct9), sl9⟩) (c9 : PySem.W.codeIn K cd9 "is_ending" = true) (k9 : PySem.W.keepIn K (.ref f9) = true)
    (a18 : PySem.W.findIn K (.ref C_Demand) "__bool__" = some (some (.ref f18))) (i18 : PySem.W.isFn K (.ref f18) = true) (l18 : K.lookup f18 = some ⟨oc18, od18, .func (PySem.W.fnOf "__bool__" "Demand.__bool__" (defArgs (meth 17 7)) (defBody (meth 17 7)) (defScope (meth 17 7)) .none kV18 dc18 pm18 an18 cd18 ct18), sl18⟩) (c18 : PySem.W.codeIn K cd18 "Demand.__bool__" = true) (k18 : PySem.W.keepIn K (.ref f18) = true)
    (a23 : PySem.W.nsIn K mainGlobals "_law_deck" = some (some (.ref f23))) (l23 : K.lookup f23 = some ⟨oc23, od23, .func (PySem.W.fnOf "_law_deck" "_law_deck" (defArgs (top 19)) (defBody (top 19)) (defScope (top 19)) .none kV23 dc23 pm23 an23 cd23 ct23), sl23⟩) (c23 : PySem.W.codeIn K cd23 "_law_deck" = true) (k23 : PySem.W.keepIn K (.ref f23) = true)
    (a24 : PySem.W.nsIn K mainGlobals "_law_draw" = some (some (.ref f24))) (l24 : K.lookup f24 = some ⟨oc24, od24, .func (PySem.W.fnOf "_law_draw" "_law_draw" (defArgs (top 20)) (defBody (top 20)) (defScope (top 20)) .none kV24 dc24 pm24 an24 cd24 ct24), sl24⟩) (c24 : PySem.W.codeIn K cd24 "_law_draw" = true) (k24 : PySem.W.keepIn K (.ref f24) = true)
    (a28 : PySem.W.nsIn K mainGlobals "_law_alive" = some (some (.ref f28))) (l28 : K.lookup f28 = some ⟨oc28, od28, .func (PySem.W.fnOf "_law_alive" "_law_alive" (defArgs (top 24)) (defBody (top 24)) (defScope (top 24)) .none kV28 dc28 pm28 an28 cd28 ct28), sl28⟩) (c28 : PySem.W.codeIn K cd28 "_law_alive" = true) (k28 : PySem.W.keepIn K (.ref f28) = true)
    (a29 : PySem.W.nsIn K mainGlobals "_law_to" = some (some (.ref f29))) (l29 : K.lookup f29 = some ⟨oc29, od29, .func (PySem.W.fnOf "_law_to" "_law_to" (defArgs (top 25)) (defBody (top 25)) (defScope (top 25)) .none kV29 dc29 pm29 an29 cd29 ct29), sl29⟩) (c29 : PySem.W.codeIn K cd29 "_law_to" = true) (k29 : PySem.W.keepIn K (.ref f29) = true)
    (a3 : PySem.W.nsIn K mainGlobals "least" = some (some (.ref f3))) (l3 : K.lookup f3 = some ⟨oc3, od3, .func (PySem.W.fnOf "least" "least" (defArgs (top 8)) (defBody (top 8)) (defScope (top 8)) .none kV3 dc3 pm3 an3 cd3 ct3), sl3⟩) (c3 : PySem.W.codeIn K cd3 "least" = true) (k3 : PySem.W.keepIn K (.ref f3) = true)
    (a7 : PySem.W.nsIn K mainGlobals "state_behind" = some (some (.ref f7))) (l7 : K.lookup f7 = some ⟨oc7, od7, .func (PySem.W.fnOf "state_behind" "state_behind" (defArgs (top 12)) (defBody (top 12)) (defScope (top 12)) .none kV7 dc7 pm7 an7 cd7 ct7), sl7⟩) (c7 : PySem.W.codeIn K cd7 "state_behind" = true) (k7 : PySem.W.keepIn K (.ref f7) = true)
    (a10 : PySem.W.nsIn K mainGlobals "paired" = some (some (.ref f10))) (l10 : K.lookup f10 = some ⟨oc10, od10, .func (PySem.W.fnOf "paired" "paired" (defArgs (top 15)) (defBody (top 15)) (defScope (top 15)) .none kV10 dc10 pm10 an10 cd10 ct10), sl10⟩) (c10 : PySem.W.codeIn K cd10 "paired" = true) (k10 : PySem.W.keepIn K (.ref f10) = true)
    (a21 : PySem.W.findIn K (.ref C_Demand) "fields" = some (some (.ref pp21))) (pg21 : PySem.W.specialIn K (.ref pp21) "__get__" = some (some (.builtin "property.__get__"))) (pt21 : PySem.W.takesIn K (.ref pp21) = some true) (pq21 : PySem.W.recIn K pp21 "property" = some (.ref f21 :: pr21)) (l21 : K.lookup f21 = some ⟨oc21, od21, .func (PySem.W.fnOf "fields" "Demand.fields" (defArgs (meth 17 10)) (defBody (meth 17 10)) (defScope (meth 17 10)) .none kV21 dc21 pm21 an21 cd21 ct21), sl21⟩) (c21 : PySem.W.codeIn K cd21 "Demand.fields" = true) (k21 : PySem.W.keepIn K (.ref f21) = true)
    (a25 : PySem.W.nsIn K mainGlobals "_law_pick" = some (some (.ref f25))) (l25 : K.lookup f25 = some ⟨oc25, od25, .func (PySem.W.fnOf "_law_pick" "_law_pick" (defArgs (top 21)) (defBody (top 21)) (defScope (top 21)) .none kV25 dc25 pm25 an25 cd25 ct25), sl25⟩) (c25 : PySem.W.codeIn K cd25 "_law_pick" = true) (k25 : PySem.W.keepIn K (.ref f25) = true)
    (a27 : PySem.W.nsIn K mainGlobals "_law_automaton" = some (some (.ref f27))) (l27 : K.lookup f27 = some ⟨oc27, od27, .func (PySem.W.fnOf "_law_automaton" "_law_automaton" (defArgs (top 23)) (defBody (top 23)) (defScope (top 23)) .none kV27 dc27 pm27 an27 cd27 ct27), sl27⟩) (c27 : PySem.W.codeIn K cd27 "_law_automaton" = true) (k27 : PySem.W.keepIn K (.ref f27) = true)
    (a11 : PySem.W.findIn K (.ref C_Demand) "__init__" = some (some (.ref f11))) (i11 : PySem.W.isFn K (.ref f11) = true) (l11 : K.lookup f11 = some ⟨oc11, od11, .func (PySem.W.fnOf "__init__" "Demand.__init__" (defArgs (meth 17 0)) (defBody (meth 17 0)) (defScope (meth 17 0)) .none kV11 dc11 pm11 an11 cd11 ct11), sl11⟩) (c11 : PySem.W.codeIn K cd11 "Demand.__init__" = true) (k11 : PySem.W.keepIn K (.ref f11) = true)
    (a17 : PySem.W.findIn K (.ref C_Demand) "__contains__" = some (some (.ref f17))) (i17 : PySem.W.isFn K (.ref f17) = true) (l17 : K.lookup f17 = some ⟨oc17, od17, .func (PySem.W.fnOf "__contains__" "Demand.__contains__" (defArgs (meth 17 6)) (defBody (meth 17 6)) (defScope (meth 17 6)) .none kV17 dc17 pm17 an17 cd17 ct17), sl17⟩) (c17 : PySem.W.codeIn K cd17 "Demand.__contains__" = true) (k17 : PySem.W.keepIn K (.ref f17) = true)
    (a26 : PySem.W.nsIn K mainGlobals "_law_names" = some (some (.ref f26))) (l26 : K.lookup f26 = some ⟨oc26, od26, .func (PySem.W.fnOf "_law_names" "_law_names" (defArgs (top 22)) (defBody (top 22)) (defScope (top 22)) .none kV26 dc26 pm26 an26 cd26 ct26), sl26⟩) (c26 : PySem.W.codeIn K cd26 "_law_names" = true) (k26 : PySem.W.keepIn K (.ref f26) = true)
    (a31 : PySem.W.nsIn K mainGlobals "_law_fields_right" = some (some (.ref f31))) (l31 : K.lookup f31 = some ⟨oc31, od31, .func (PySem.W.fnOf "_law_fields_right" "_law_fields_right" (defArgs (top 27)) (defBody (top 27)) (defScope (top 27)) .none kV31 dc31 pm31 an31 cd31 ct31), sl31⟩) (c31 : PySem.W.codeIn K cd31 "_law_fields_right" = true) (k31 : PySem.W.keepIn K (.ref f31) = true)
    (a12 : PySem.W.findCls K (.ref C_Demand) (.type "type") "of" = some (.get (.builtin "staticmethod.__get__") (.ref pp12) .none (.ref C_Demand))) (sm12 : PySem.W.recIn K pp12 "staticmethod" = some (.ref f12 :: pr12)) (l12 : K.lookup f12 = some ⟨oc12, od12, .func (PySem.W.fnOf "of" "Demand.of" (defArgs (meth 17 1)) (defBody (meth 17 1)) (defScope (meth 17 1)) .none kV12 dc12 pm12 an12 cd12 ct12), sl12⟩) (c12 : PySem.W.codeIn K cd12 "Demand.of" = true) (k12 : PySem.W.keepIn K (.ref f12) = true)
    (a13 : PySem.W.findIn K (.ref C_Demand) "__eq__" = some (some (.ref f13))) (i13 : PySem.W.isFn K (.ref f13) = true) (l13 : K.lookup f13 = some ⟨oc13, od13, .func (PySem.W.fnOf "__eq__" "Demand.__eq__" (defArgs (meth 17 2)) (defBody (meth 17 2)) (defScope (meth 17 2)) .none kV13 dc13 pm13 an13 cd13 ct13), sl13⟩) (c13 : PySem.W.codeIn K cd13 "Demand.__eq__" = true) (k13 : PySem.W.keepIn K (.ref f13) = true)
    (a20 : PySem.W.findIn K (.ref C_Demand) "behind" = some (some (.ref f20))) (i20 : PySem.W.isFn K (.ref f20) = true) (l20 : K.lookup f20 = some ⟨oc20, od20, .func (PySem.W.fnOf "behind" "Demand.behind" (defArgs (meth 17 9)) (defBody (meth 17 9)) (defScope (meth 17 9)) .none kV20 dc20 pm20 an20 cd20 ct20), sl20⟩) (c20 : PySem.W.codeIn K cd20 "Demand.behind" = true) (k20 : PySem.W.keepIn K (.ref f20) = true)
    (a30 : PySem.W.nsIn K mainGlobals "_law_is_same" = some (some (.ref f30))) (l30 : K.lookup f30 = some ⟨oc30, od30, .func (PySem.W.fnOf "_law_is_same" "_law_is_same" (defArgs (top 26)) (defBody (top 26)) (defScope (top 26)) .none kV30 dc30 pm30 an30 cd30 ct30), sl30⟩) (c30 : PySem.W.codeIn K cd30 "_law_is_same" = true) (k30 : PySem.W.keepIn K (.ref f30) = true)
    (a32 : PySem.W.nsIn K mainGlobals "_law_row_right" = some (some (.ref f32))) (l32 : K.lookup f32 = some ⟨oc32, od32, .func (PySem.W.fnOf "_law_row_right" "_law_row_right" (defArgs (top 28)) (defBody (top 28)) (defScope (top 28)) .none kV32 dc32 pm32 an32 cd32 ct32), sl32⟩) (c32 : PySem.W.codeIn K cd32 "_law_row_right" = true) (k32 : PySem.W.keepIn K (.ref f32) = true)
    (a33 : PySem.W.nsIn K mainGlobals "law" = some (some (.ref f33))) (l33 : K.lookup f33 = some ⟨oc33, od33, .func (PySem.W.fnOf "law" "law" (defArgs (top 29)) (defBody (top 29)) (defScope (top 29)) .none kV33 dc33 pm33 an33 cd33 ct33), sl33⟩) (c33 : PySem.W.codeIn K cd33 "law" = true) (k33 : PySem.W.keepIn K (.ref f33) = true)
    (z_bool : PySem.W.nsIn K mainGlobals "bool" = some none)
    (z_dict : PySem.W.nsIn K mainGlobals "dict" = some none)
    (z_enumerate : PySem.W.nsIn K mainGlobals "enumerate" = some none)
    (z_int : PySem.W.nsIn K mainGlobals "int" = some none)
    (z_isinstance : PySem.W.nsIn K mainGlobals "isinstance" = some none)
    (z_len : PySem.W.nsIn K mainGlobals "len" = some none)
    (z_list : PySem.W.nsIn K mainGlobals "list" = some none)
    (z_min : PySem.W.nsIn K mainGlobals "min" = some none)
    (z_range : PySem.W.nsIn K mainGlobals "range" = some none)
    (z_repr : PySem.W.nsIn K mainGlobals "repr" = some none)
    (z_set : PySem.W.nsIn K mainGlobals "set" = some none)
    (z_sorted : PySem.W.nsIn K mainGlobals "sorted" = some none)
    (z_tuple : PySem.W.nsIn K mainGlobals "tuple" = some none)
    (z_zip : PySem.W.nsIn K mainGlobals "zip" = some none)
    (a_BOTH : PySem.W.nsIn K mainGlobals "BOTH" = some (some u_BOTH)) (v_BOTH : RelV (.str "both") u_BOTH)
    (a_EITHER : PySem.W.nsIn K mainGlobals "EITHER" = some (some u_EITHER)) (v_EITHER : RelV (.str "either") u_EITHER)
    (a_FIRST_ALONE : PySem.W.nsIn K mainGlobals "FIRST_ALONE" = some (some u_FIRST_ALONE)) (v_FIRST_ALONE : RelV (.str "first alone") u_FIRST_ALONE)
    (a_NOWHERE : PySem.W.nsIn K mainGlobals "NOWHERE" = some (some u_NOWHERE)) (v_NOWHERE : RelV (.int (-1)) u_NOWHERE)
    : ∃ fd : FuncData, (∀ (s : Shared) (u : Value), BindsTo s fd ⟨[u], []⟩ [("_law_script", u)]) ∧ ∀ base : Heap, K.In base → base.Ns mainGlobals mg → (∃ m, base.Ns sysModules m) → FnG l.prog w K mg base CX0 8 fa fd ["_law_script"] (spF ⟨K, w, l.prog, mg⟩ 1 (ap1 c_law)) := by
  have e := hfa.symm.trans (PySem.W.mg_of X G a33)
  cases e
  let Ad : Nat → Addr := fun i => match i with | 0 => f0 | 1 => f1 | 2 => f2 | 3 => f3 | 4 => f4 | 5 => f5 | 6 => f6 | 7 => f7 | 8 => f8 | 9 => f9 | 10 => f10 | 11 => f11 | 12 => f12 | 13 => f13 | 17 => f17 | 18 => f18 | 20 => f20 | 21 => f21 | 23 => f23 | 24 => f24 | 25 => f25 | 26 => f26 | 27 => f27 | 28 => f28 | 29 => f29 | 30 => f30 | 31 => f31 | 32 => f32 | _ => fa
  let Fd : Nat → FuncData := fun i => match i with | 0 => PySem.W.fnOf "_wall" "_wall" (defArgs (top 0)) (defBody (top 0)) (defScope (top 0)) .none kV0 dc0 pm0 an0 cd0 ct0 | 1 => PySem.W.fnOf "lively_states" "lively_states" (defArgs (top 6)) (defBody (top 6)) (defScope (top 6)) .none kV1 dc1 pm1 an1 cd1 ct1 | 2 => PySem.W.fnOf "classes_of" "classes_of" (defArgs (top 7)) (defBody (top 7)) (defScope (top 7)) .none kV2 dc2 pm2 an2 cd2 ct2 | 3 => PySem.W.fnOf "least" "least" (defArgs (top 8)) (defBody (top 8)) (defScope (top 8)) .none kV3 dc3 pm3 an3 cd3 ct3 | 4 => PySem.W.fnOf "first_of" "first_of" (defArgs (top 9)) (defBody (top 9)) (defScope (top 9)) .none kV4 dc4 pm4 an4 cd4 ct4 | 5 => PySem.W.fnOf "edges_at" "edges_at" (defArgs (top 10)) (defBody (top 10)) (defScope (top 10)) .none kV5 dc5 pm5 an5 cd5 ct5 | 6 => PySem.W.fnOf "ends_at" "ends_at" (defArgs (top 11)) (defBody (top 11)) (defScope (top 11)) .none kV6 dc6 pm6 an6 cd6 ct6 | 7 => PySem.W.fnOf "state_behind" "state_behind" (defArgs (top 12)) (defBody (top 12)) (defScope (top 12)) .none kV7 dc7 pm7 an7 cd7 ct7 | 8 => PySem.W.fnOf "rooted" "rooted" (defArgs (top 13)) (defBody (top 13)) (defScope (top 13)) .none kV8 dc8 pm8 an8 cd8 ct8 | 9 => PySem.W.fnOf "is_ending" "is_ending" (defArgs (top 14)) (defBody (top 14)) (defScope (top 14)) .none kV9 dc9 pm9 an9 cd9 ct9 | 10 => PySem.W.fnOf "paired" "paired" (defArgs (top 15)) (defBody (top 15)) (defScope (top 15)) .none kV10 dc10 pm10 an10 cd10 ct10 | 11 => PySem.W.fnOf "__init__" "Demand.__init__" (defArgs (meth 17 0)) (defBody (meth 17 0)) (defScope (meth 17 0)) .none kV11 dc11 pm11 an11 cd11 ct11 | 12 => PySem.W.fnOf "of" "Demand.of" (defArgs (meth 17 1)) (defBody (meth 17 1)) (defScope (meth 17 1)) .none kV12 dc12 pm12 an12 cd12 ct12 | 13 => PySem.W.fnOf "__eq__" "Demand.__eq__" (defArgs (meth 17 2)) (defBody (meth 17 2)) (defScope (meth 17 2)) .none kV13 dc13 pm13 an13 cd13 ct13 | 17 => PySem.W.fnOf "__contains__" "Demand.__contains__" (defArgs (meth 17 6)) (defBody (meth 17 6)) (defScope (meth 17 6)) .none kV17 dc17 pm17 an17 cd17 ct17 | 18 => PySem.W.fnOf "__bool__" "Demand.__bool__" (defArgs (meth 17 7)) (defBody (meth 17 7)) (defScope (meth 17 7)) .none kV18 dc18 pm18 an18 cd18 ct18 | 20 => PySem.W.fnOf "behind" "Demand.behind" (defArgs (meth 17 9)) (defBody (meth 17 9)) (defScope (meth 17 9)) .none kV20 dc20 pm20 an20 cd20 ct20 | 21 => PySem.W.fnOf "fields" "Demand.fields" (defArgs (meth 17 10)) (defBody (meth 17 10)) (defScope (meth 17 10)) .none kV21 dc21 pm21 an21 cd21 ct21 | 23 => PySem.W.fnOf "_law_deck" "_law_deck" (defArgs (top 19)) (defBody (top 19)) (defScope (top 19)) .none kV23 dc23 pm23 an23 cd23 ct23 | 24 => PySem.W.fnOf "_law_draw" "_law_draw" (defArgs (top 20)) (defBody (top 20)) (defScope (top 20)) .none kV24 dc24 pm24 an24 cd24 ct24 | 25 => PySem.W.fnOf "_law_pick" "_law_pick" (defArgs (top 21)) (defBody (top 21)) (defScope (top 21)) .none kV25 dc25 pm25 an25 cd25 ct25 | 26 => PySem.W.fnOf "_law_names" "_law_names" (defArgs (top 22)) (defBody (top 22)) (defScope (top 22)) .none kV26 dc26 pm26 an26 cd26 ct26 | 27 => PySem.W.fnOf "_law_automaton" "_law_automaton" (defArgs (top 23)) (defBody (top 23)) (defScope (top 23)) .none kV27 dc27 pm27 an27 cd27 ct27 | 28 => PySem.W.fnOf "_law_alive" "_law_alive" (defArgs (top 24)) (defBody (top 24)) (defScope (top 24)) .none kV28 dc28 pm28 an28 cd28 ct28 | 29 => PySem.W.fnOf "_law_to" "_law_to" (defArgs (top 25)) (defBody (top 25)) (defScope (top 25)) .none kV29 dc29 pm29 an29 cd29 ct29 | 30 => PySem.W.fnOf "_law_is_same" "_law_is_same" (defArgs (top 26)) (defBody (top 26)) (defScope (top 26)) .none kV30 dc30 pm30 an30 cd30 ct30 | 31 => PySem.W.fnOf "_law_fields_right" "_law_fields_right" (defArgs (top 27)) (defBody (top 27)) (defScope (top 27)) .none kV31 dc31 pm31 an31 cd31 ct31 | 32 => PySem.W.fnOf "_law_row_right" "_law_row_right" (defArgs (top 28)) (defBody (top 28)) (defScope (top 28)) .none kV32 dc32 pm32 an32 cd32 ct32 | _ => PySem.W.fnOf "law" "law" (defArgs (top 29)) (defBody (top 29)) (defScope (top 29)) .none kV33 dc33 pm33 an33 cd33 ct33
  have T : ∀ base : Heap, (∃ m, base.Ns sysModules m) → Txt l.prog w K mg Ad Fd base := fun base hs => {
    sys := hs
    f_wall := fun_mk (st := top 0) l0 c0 k0
    g_wall := PySem.W.mg_of X G a0
    b_wall := (fun_mk (st := top 0) l0 c0 k0).binds fun _ _ _ _ _ _ us hl => match us, hl with | [_], _ => rfl
    f_lively_states := fun_mk (st := top 6) l1 c1 k1
    g_lively_states := PySem.W.mg_of X G a1
    b_lively_states := (fun_mk (st := top 6) l1 c1 k1).binds fun _ _ _ _ _ _ us hl => match us, hl with | [_], _ => rfl
    f_classes_of := fun_mk (st := top 7) l2 c2 k2
    g_classes_of := PySem.W.mg_of X G a2
    b_classes_of := (fun_mk (st := top 7) l2 c2 k2).binds fun _ _ _ _ _ _ us hl => match us, hl with | [_, _], _ => rfl
    f_first_of := fun_mk (st := top 9) l4 c4 k4
    g_first_of := PySem.W.mg_of X G a4
    b_first_of := (fun_mk (st := top 9) l4 c4 k4).binds fun _ _ _ _ _ _ us hl => match us, hl with | [_], _ => rfl
    f_edges_at := fun_mk (st := top 10) l5 c5 k5
    g_edges_at := PySem.W.mg_of X G a5
    b_edges_at := (fun_mk (st := top 10) l5 c5 k5).binds fun _ _ _ _ _ _ us hl => match us, hl with | [_, _], _ => rfl
    f_ends_at := fun_mk (st := top 11) l6 c6 k6
    g_ends_at := PySem.W.mg_of X G a6
    b_ends_at := (fun_mk (st := top 11) l6 c6 k6).binds fun _ _ _ _ _ _ us hl => match us, hl with | [_, _], _ => rfl
    f_rooted := fun_mk (st := top 13) l8 c8 k8
    g_rooted := PySem.W.mg_of X G a8
    b_rooted := (fun_mk (st := top 13) l8 c8 k8).binds fun _ _ _ _ _ _ us hl => match us, hl with | [_, _], _ => rfl
    f_is_ending := fun_mk (st := top 14) l9 c9 k9
    g_is_ending := PySem.W.mg_of X G a9
    b_is_ending := (fun_mk (st := top 14) l9 c9 k9).binds fun _ _ _ _ _ _ us hl => match us, hl with | [_, _, _], _ => rfl
    f_Demand_bool := fun_mk (st := meth 17 7) l18 c18 k18
    m_Demand_bool := ⟨_, PySem.W.mg_of X G aC_Demand, a18, i18⟩
    b_Demand_bool := (fun_mk (st := meth 17 7) l18 c18 k18).binds fun _ _ _ _ _ _ us hl => match us, hl with | [_], _ => rfl
    f_law_deck := fun_mk (st := top 19) l23 c23 k23
    g_law_deck := PySem.W.mg_of X G a23
    b_law_deck := (fun_mk (st := top 19) l23 c23 k23).binds fun _ _ _ _ _ _ us hl => match us, hl with | [_], _ => rfl
    f_law_draw := fun_mk (st := top 20) l24 c24 k24
    g_law_draw := PySem.W.mg_of X G a24
    b_law_draw := (fun_mk (st := top 20) l24 c24 k24).binds fun _ _ _ _ _ _ us hl => match us, hl with | [_, _], _ => rfl
    f_law_alive := fun_mk (st := top 24) l28 c28 k28
    g_law_alive := PySem.W.mg_of X G a28
    b_law_alive := (fun_mk (st := top 24) l28 c28 k28).binds fun _ _ _ _ _ _ us hl => match us, hl with | [_], _ => rfl
    f_law_to := fun_mk (st := top 25) l29 c29 k29
    g_law_to := PySem.W.mg_of X G a29
    b_law_to := (fun_mk (st := top 25) l29 c29 k29).binds fun _ _ _ _ _ _ us hl => match us, hl with | [_, _, _], _ => rfl
    f_least := fun_mk (st := top 8) l3 c3 k3
    g_least := PySem.W.mg_of X G a3
    b_least := (fun_mk (st := top 8) l3 c3 k3).binds fun _ _ _ _ _ _ us hl => match us, hl with | [_], _ => rfl
    f_state_behind := fun_mk (st := top 12) l7 c7 k7
    g_state_behind := PySem.W.mg_of X G a7
    b_state_behind := (fun_mk (st := top 12) l7 c7 k7).binds fun _ _ _ _ _ _ us hl => match us, hl with | [_, _], _ => rfl
    f_paired := fun_mk (st := top 15) l10 c10 k10
    g_paired := PySem.W.mg_of X G a10
    b_paired := (fun_mk (st := top 15) l10 c10 k10).binds fun _ _ _ _ _ _ us hl => match us, hl with | [_, _, _], _ => rfl
    f_Demand_fields := fun_mk (st := meth 17 10) l21 c21 k21
    m_Demand_fields := ⟨_, _, PySem.W.mg_of X G aC_Demand, ⟨cg_Demand, ch_Demand, co_Demand, cs_Demand⟩, ⟨a21, pg21, pt21, _, pq21⟩⟩
    b_Demand_fields := (fun_mk (st := meth 17 10) l21 c21 k21).binds fun _ _ _ _ _ _ us hl => match us, hl with | [_], _ => rfl
    f_law_pick := fun_mk (st := top 21) l25 c25 k25
    g_law_pick := PySem.W.mg_of X G a25
    b_law_pick := (fun_mk (st := top 21) l25 c25 k25).binds fun _ _ _ _ _ _ us hl => match us, hl with | [_, _], _ => rfl
    f_law_automaton := fun_mk (st := top 23) l27 c27 k27
    g_law_automaton := PySem.W.mg_of X G a27
    b_law_automaton := (fun_mk (st := top 23) l27 c27 k27).binds fun _ _ _ _ _ _ us hl => match us, hl with | [_, _, _], _ => rfl
    f_Demand_init := fun_mk (st := meth 17 0) l11 c11 k11
    m_Demand_init := ⟨_, PySem.W.mg_of X G aC_Demand, ⟨cm_Demand, a11, i11, ck_Demand⟩⟩
    b_Demand_init := (fun_mk (st := meth 17 0) l11 c11 k11).binds fun _ _ _ _ _ _ us hl => match us, hl with | [_, _], _ => rfl
    f_Demand_contains := fun_mk (st := meth 17 6) l17 c17 k17
    m_Demand_contains := ⟨_, PySem.W.mg_of X G aC_Demand, a17, i17⟩
    b_Demand_contains := (fun_mk (st := meth 17 6) l17 c17 k17).binds fun _ _ _ _ _ _ us hl => match us, hl with | [_, _], _ => rfl
    f_law_names := fun_mk (st := top 22) l26 c26 k26
    g_law_names := PySem.W.mg_of X G a26
    b_law_names := (fun_mk (st := top 22) l26 c26 k26).binds fun _ _ _ _ _ _ us hl => match us, hl with | [_, _], _ => rfl
    f_law_fields_right := fun_mk (st := top 27) l31 c31 k31
    g_law_fields_right := PySem.W.mg_of X G a31
    b_law_fields_right := (fun_mk (st := top 27) l31 c31 k31).binds fun _ _ _ _ _ _ us hl => match us, hl with | [_, _, _], _ => rfl
    f_Demand_of := fun_mk (st := meth 17 1) l12 c12 k12
    m_Demand_of := ⟨_, _, _, PySem.W.mg_of X G aC_Demand, ⟨rd_Demand, ga_Demand⟩, ⟨a12, ⟨_, sm12⟩, k12⟩⟩
    b_Demand_of := (fun_mk (st := meth 17 1) l12 c12 k12).binds fun _ _ _ _ _ _ us hl => match us, hl with | [_], _ => rfl
    f_Demand_eq := fun_mk (st := meth 17 2) l13 c13 k13
    m_Demand_eq := ⟨_, PySem.W.mg_of X G aC_Demand, a13, i13⟩
    b_Demand_eq := (fun_mk (st := meth 17 2) l13 c13 k13).binds fun _ _ _ _ _ _ us hl => match us, hl with | [_, _], _ => rfl
    f_Demand_behind := fun_mk (st := meth 17 9) l20 c20 k20
    m_Demand_behind := ⟨_, PySem.W.mg_of X G aC_Demand, ⟨cg_Demand, ch_Demand, co_Demand, cs_Demand⟩, ⟨a20, i20, k20⟩⟩
    b_Demand_behind := (fun_mk (st := meth 17 9) l20 c20 k20).binds fun _ _ _ _ _ _ us hl => match us, hl with | [_, _], _ => rfl
    f_law_is_same := fun_mk (st := top 26) l30 c30 k30
    g_law_is_same := PySem.W.mg_of X G a30
    b_law_is_same := (fun_mk (st := top 26) l30 c30 k30).binds fun _ _ _ _ _ _ us hl => match us, hl with | [_, _, _], _ => rfl
    f_law_row_right := fun_mk (st := top 28) l32 c32 k32
    g_law_row_right := PySem.W.mg_of X G a32
    b_law_row_right := (fun_mk (st := top 28) l32 c32 k32).binds fun _ _ _ _ _ _ us hl => match us, hl with | [_, _, _, _], _ => rfl
    f_law := fun_mk (st := top 29) l33 c33 k33
    g_law := PySem.W.mg_of X G a33
    b_law := (fun_mk (st := top 29) l33 c33 k33).binds fun _ _ _ _ _ _ us hl => match us, hl with | [_], _ => rfl
    is_Demand := ⟨_, PySem.W.mg_of X G aC_Demand, fun H a dx fs e => .ins e ⟨cg_Demand, ch_Demand, co_Demand, cs_Demand⟩ ic_Demand ig_Demand it_Demand im_Demand⟩
    fl_Demand_automaton := ⟨_, PySem.W.mg_of X G aC_Demand, ⟨cg_Demand, ch_Demand, co_Demand, cs_Demand⟩, cn_Demand_automaton⟩
    kw_0 := ⟨fun s us ws _ h1 h2 => match us, ws, h1, h2 with | [_], [_], _, _ => .of_eq rfl, rfl⟩
    n_bool := PySem.W.mg_none_of X G z_bool
    n_dict := PySem.W.mg_none_of X G z_dict
    n_enumerate := PySem.W.mg_none_of X G z_enumerate
    n_int := PySem.W.mg_none_of X G z_int
    n_isinstance := PySem.W.mg_none_of X G z_isinstance
    n_len := PySem.W.mg_none_of X G z_len
    n_list := PySem.W.mg_none_of X G z_list
    n_min := PySem.W.mg_none_of X G z_min
    n_range := PySem.W.mg_none_of X G z_range
    n_repr := PySem.W.mg_none_of X G z_repr
    n_set := PySem.W.mg_none_of X G z_set
    n_sorted := PySem.W.mg_none_of X G z_sorted
    n_tuple := PySem.W.mg_none_of X G z_tuple
    n_zip := PySem.W.mg_none_of X G z_zip
    cv_BOTH := ⟨_, _, PySem.W.mg_of X G a_BOTH, v_BOTH, fun H => .str _⟩
    cv_EITHER := ⟨_, _, PySem.W.mg_of X G a_EITHER, v_EITHER, fun H => .str _⟩
    cv_FIRST_ALONE := ⟨_, _, PySem.W.mg_of X G a_FIRST_ALONE, v_FIRST_ALONE, fun H => .str _⟩
    cv_NOWHERE := ⟨_, _, PySem.W.mg_of X G a_NOWHERE, v_NOWHERE, fun H => .int _⟩
  }
  exact ⟨PySem.W.fnOf "law" "law" (defArgs (top 29)) (defBody (top 29)) (defScope (top 29)) .none kV33 dc33 pm33 an33 cd33 ct33, fun s v => .of_eq rfl, fun base _ _ hs => ok_law (T base hs)⟩
end K40
set_option maxHeartbeats 0
namespace K40
open PySem L2 DL
structure Sta where
  ends : Bool
  es : List (Str × Nat)
  deriving DecidableEq
abbrev Aut := List Sta
def edgD (e : Str × Nat) : D := .tup [.str e.1, .int (e.2 : Int)]
def Sta.d (s : Sta) : D := .tup [.bl s.ends, .tup (s.es.map edgD)]
def autD (A : Aut) : D := .tup (A.map Sta.d)
structure AutOk (A : Aut) : Prop where
  lt : ∀ s ∈ A, ∀ e ∈ s.es, e.2 < A.length
  nd : ∀ s ∈ A, (s.es.map (·.1)).Nodup
  le : ∀ s ∈ A, s.es.length ≤ 20
  len : A.length ≤ 100
inductive Live (A : Aut) : Nat → Prop
  | fin {i : Nat} {s : Sta} : A[i]? = some s → s.ends = true → Live A i
  | step {i : Nat} {s : Sta} {e : Str × Nat} : A[i]? = some s → e ∈ s.es → Live A e.2 → Live A i
theorem Live.lt {A : Aut} {i : Nat} (h : Live A i) : i < A.length := by
  cases h with
  | fin h _ => exact (List.getElem?_eq_some_iff.mp h).1
  | step h _ _ => exact (List.getElem?_eq_some_iff.mp h).1
noncomputable def lv (A : Aut) (es : List (Str × Nat)) : List (Str × Nat) := by
  classical exact es.filter fun e => decide (Live A e.2)
theorem mem_lv {A : Aut} {es : List (Str × Nat)} {e : Str × Nat} : e ∈ lv A es ↔ e ∈ es ∧ Live A e.2 := by
  unfold lv
  rw [List.mem_filter]
  simp
theorem lv_all {A : Aut} {es : List (Str × Nat)} (h : ∀ e ∈ es, Live A e.2) : lv A es = es := by
  unfold lv
  rw [List.filter_eq_self]
  intro e he
  simpa using h e he
theorem lv_filter {A : Aut} {es : List (Str × Nat)} {p : Str × Nat → Bool} (h : ∀ e ∈ es, p e = true ↔ Live A e.2) : es.filter p = lv A es := by
  unfold lv
  refine List.filter_congr fun e he => ?_
  have := h e he
  cases z : p e with
  | true => simpa using this.mp z
  | false =>
    have : ¬ Live A e.2 := fun l => by rw [this.mpr l] at z; cases z
    simpa using this
inductive EdR (R : Nat → Nat → Prop) : List (Str × Nat) → List (Str × Nat) → Prop
  | nil : EdR R [] []
  | cons {f : Str} {i j : Nat} {a b : List (Str × Nat)} : R i j → EdR R a b → EdR R ((f, i) :: a) ((f, j) :: b)
theorem EdR.mono {R S : Nat → Nat → Prop} {a b : List (Str × Nat)} (h : EdR R a b) (k : ∀ i j, R i j → S i j) : EdR S a b := by
  induction h with
  | nil => exact .nil
  | cons r _ ih => exact .cons (k _ _ r) ih
theorem EdR.symm {R : Nat → Nat → Prop} {a b : List (Str × Nat)} (h : EdR R a b) : EdR (fun i j => R j i) b a := by
  induction h with
  | nil => exact .nil
  | cons r _ ih => exact .cons r ih
theorem EdR.trans {R S : Nat → Nat → Prop} {a b c : List (Str × Nat)} (h : EdR R a b) (k : EdR S b c) : EdR (fun i j => ∃ m, R i m ∧ S m j) a c := by
  induction h generalizing c with
  | nil => cases k; exact .nil
  | cons r _ ih => cases k with
    | cons s t => exact .cons ⟨_, r, s⟩ (ih t)
theorem EdR.refl {R : Nat → Nat → Prop} (h : ∀ i, R i i) : ∀ a : List (Str × Nat), EdR R a a
  | [] => .nil
  | (f, i) :: a => .cons (h i) (EdR.refl h a)
theorem EdR.fields {R : Nat → Nat → Prop} {a b : List (Str × Nat)} (h : EdR R a b) : a.map (·.1) = b.map (·.1) := by
  induction h with
  | nil => rfl
  | cons _ _ ih => rw [List.map_cons, List.map_cons, ih]
theorem EdR.right {R : Nat → Nat → Prop} {a b : List (Str × Nat)} (h : EdR R a b) {e : Str × Nat} (he : e ∈ a) : ∃ e' ∈ b, e'.1 = e.1 ∧ R e.2 e'.2 := by
  induction h with
  | nil => cases he
  | cons r _ ih =>
    rcases List.mem_cons.mp he with rfl | he
    · exact ⟨_, List.mem_cons_self, rfl, r⟩
    · obtain ⟨e', h1, h2⟩ := ih he
      exact ⟨e', List.mem_cons_of_mem _ h1, h2⟩
theorem EdR.left {R : Nat → Nat → Prop} {a b : List (Str × Nat)} (h : EdR R a b) {e : Str × Nat} (he : e ∈ b) : ∃ e' ∈ a, e'.1 = e.1 ∧ R e'.2 e.2 := h.symm.right he
structure Sim (A B : Aut) (R : Nat → Nat → Prop) : Prop where
  at_ : ∀ i j, R i j → ∃ s t, A[i]? = some s ∧ B[j]? = some t ∧ s.ends = t.ends ∧ EdR R (lv A s.es) (lv B t.es)
def Bis (A B : Aut) (i j : Nat) : Prop := ∃ R, Sim A B R ∧ R i j
theorem bis_at {A B : Aut} {i j : Nat} (h : Bis A B i j) : ∃ s t, A[i]? = some s ∧ B[j]? = some t ∧ s.ends = t.ends ∧ EdR (Bis A B) (lv A s.es) (lv B t.es) := by
  obtain ⟨R, S, r⟩ := h
  obtain ⟨s, t, h1, h2, h3, h4⟩ := S.at_ i j r
  exact ⟨s, t, h1, h2, h3, h4.mono fun a b z => ⟨R, S, z⟩⟩
theorem bis_symm {A B : Aut} {i j : Nat} (h : Bis A B i j) : Bis B A j i := by
  refine ⟨fun a b => Bis A B b a, ⟨fun a b r => ?_⟩, h⟩
  obtain ⟨s, t, h1, h2, h3, h4⟩ := bis_at r
  exact ⟨t, s, h2, h1, h3.symm, h4.symm⟩
theorem bis_trans {A B C : Aut} {i j k : Nat} (h : Bis A B i j) (g : Bis B C j k) : Bis A C i k := by
  refine ⟨fun a c => ∃ b, Bis A B a b ∧ Bis B C b c, ⟨fun a c r => ?_⟩, ⟨j, h, g⟩⟩
  obtain ⟨b, r1, r2⟩ := r
  obtain ⟨s, t, h1, h2, h3, h4⟩ := bis_at r1
  obtain ⟨t', u, g1, g2, g3, g4⟩ := bis_at r2
  rw [h2] at g1
  cases g1
  exact ⟨s, u, h1, g2, h3.trans g3, h4.trans g4⟩
theorem bis_refl {A : Aut} {i : Nat} (h : i < A.length) (ok : ∀ s ∈ A, ∀ e ∈ s.es, e.2 < A.length) : Bis A A i i := by
  refine ⟨fun a b => a = b ∧ a < A.length, ⟨fun a b r => ?_⟩, rfl, h⟩
  obtain ⟨rfl, lt⟩ := r
  refine ⟨A[a], A[a], List.getElem?_eq_getElem lt, List.getElem?_eq_getElem lt, rfl, ?_⟩
  have key : ∀ es : List (Str × Nat), (∀ e ∈ es, e.2 < A.length) → EdR (fun a b => a = b ∧ a < A.length) es es := by
    intro es
    induction es with
    | nil => exact fun _ => .nil
    | cons e es ih => exact fun h => .cons ⟨rfl, h e List.mem_cons_self⟩ (ih fun x hx => h x (List.mem_cons_of_mem _ hx))
  exact key _ fun e he => ok _ (List.getElem_mem lt) e (mem_lv.mp he).1
theorem bis_live {A B : Aut} {i j : Nat} (h : Bis A B i j) (l : Live A i) : Live B j := by
  induction l generalizing j with
  | fin a e =>
    obtain ⟨s, t, h1, h2, h3, _⟩ := bis_at h
    rw [a] at h1
    cases h1
    exact .fin h2 (h3 ▸ e)
  | step a e l ih =>
    obtain ⟨s, t, h1, h2, _, h4⟩ := bis_at h
    rw [a] at h1
    cases h1
    obtain ⟨e', he', _, r⟩ := h4.right (mem_lv.mpr ⟨e, l⟩)
    exact .step h2 (mem_lv.mp he').1 (ih r)
end K40
set_option maxHeartbeats 0
namespace K40
open PySem L2 DL
theorem len_nd {α : Type} [DecidableEq α] : ∀ {a b : List α}, a.Nodup → (∀ x ∈ a, x ∈ b) → a.length ≤ b.length
  | [], b, _, _ => Nat.zero_le _
  | x :: a, b, h, s => by
    rw [List.nodup_cons] at h
    have hx : x ∈ b := s x List.mem_cons_self
    have := len_nd (a := a) (b := b.erase x) h.2 fun y hy => by
      have ne : y ≠ x := fun e => h.1 (e ▸ hy)
      exact (List.mem_erase_of_ne ne).mpr (s y (List.mem_cons_of_mem _ hy))
    rw [List.length_erase_of_mem hx] at this
    have := List.length_pos_of_mem hx
    rw [List.length_cons]; omega
def seqM : Nat → List Nat → Option Nat
  | m, [] => some m
  | m, k :: ks => if k < m then seqM m ks else if k = m then seqM (m + 1) ks else none
def tgts (s : Sta) : List Nat := s.es.map (·.2)
theorem seqM_app : ∀ (a b : List Nat) (m : Nat), seqM m (a ++ b) = (seqM m a).bind fun m' => seqM m' b
  | [], _, _ => rfl
  | k :: a, b, m => by
    rw [List.cons_append, seqM, seqM]
    by_cases h : k < m
    · rw [if_pos h, if_pos h, seqM_app a b m]
    · rw [if_neg h, if_neg h]
      by_cases g : k = m
      · rw [if_pos g, if_pos g, seqM_app a b (m + 1)]
      · rw [if_neg g, if_neg g]; rfl
structure Canon (L : Aut) : Prop where
  go : ∀ t, t < L.length → ∃ m, seqM 1 ((L.take t).flatMap tgts) = some m ∧ t < m
  fin : seqM 1 (L.flatMap tgts) = some L.length
structure LeastOf (A L : Aut) (ord : List Nat) : Prop where
  len : ord.length = L.length
  z : ord[0]? = some 0
  live : ∀ (t i : Nat), ord[t]? = some i → Live A i
  di : ∀ (t u i j : Nat), ord[t]? = some i → ord[u]? = some j → Bis A A i j → t = u
  row : ∀ (t i : Nat) (s : Sta), ord[t]? = some i → A[i]? = some s → ∃ s', L[t]? = some s' ∧ s'.ends = s.ends ∧ EdR (fun k j => ∃ i', ord[k]? = some i' ∧ Bis A A i' j) s'.es (lv A s.es)
  can : Canon L
inductive IsLeast (A : Aut) : Aut → Prop
  | none : ¬ Live A 0 → IsLeast A []
  | some {L : Aut} {ord : List Nat} : Live A 0 → LeastOf A L ord → IsLeast A L
section
variable {A L L' : Aut} {ord : List Nat}
theorem LeastOf.back (o : LeastOf A L ord) {t : Nat} {s' : Sta} (h : L[t]? = some s') : ∃ i s, ord[t]? = some i ∧ A[i]? = some s ∧ s'.ends = s.ends ∧ EdR (fun k j => ∃ i', ord[k]? = some i' ∧ Bis A A i' j) s'.es (lv A s.es) := by
  have lt : t < ord.length := by rw [o.len]; exact (List.getElem?_eq_some_iff.mp h).1
  have e := List.getElem?_eq_getElem lt
  have la := (o.live t _ e).lt
  have ea := List.getElem?_eq_getElem la
  obtain ⟨s2, h1, h2, h3⟩ := o.row t _ _ e ea
  rw [h] at h1
  cases h1
  exact ⟨_, _, e, ea, h2, h3⟩
theorem LeastOf.lives (o : LeastOf A L ord) {i : Nat} (l : Live A i) : ∀ (t j : Nat), ord[t]? = some j → Bis A A j i → Live L t := by
  induction l with
  | @fin i s a e =>
    intro t j ht b
    obtain ⟨s1, s2, h1, h2, h3, _⟩ := bis_at b
    rw [a] at h2
    cases h2
    obtain ⟨s', g1, g2, _⟩ := o.row t j s1 ht h1
    exact .fin g1 (by rw [g2, h3]; exact e)
  | @step i s e a he l ih =>
    intro t j ht b
    obtain ⟨s1, s2, h1, h2, _, h4⟩ := bis_at b
    rw [a] at h2
    cases h2
    obtain ⟨s', g1, _, g3⟩ := o.row t j s1 ht h1
    obtain ⟨e1, he1, _, r1⟩ := h4.left (mem_lv.mpr ⟨he, l⟩)
    obtain ⟨e2, he2, _, i', hi', b'⟩ := g3.left he1
    exact .step g1 he2 (ih e2.2 i' hi' (bis_trans b' r1))
theorem LeastOf.refl (o : LeastOf A L ord) (ok : AutOk A) {t i : Nat} (h : ord[t]? = some i) : Bis A A i i := bis_refl (o.live t i h).lt ok.lt
theorem LeastOf.all_live (o : LeastOf A L ord) (ok : AutOk A) {t : Nat} (h : t < L.length) : Live L t := by
  have lt : t < ord.length := by rw [o.len]; exact h
  have e := List.getElem?_eq_getElem lt
  exact o.lives (o.live t _ e) t _ e (o.refl ok e)
theorem LeastOf.tlt (o : LeastOf A L ord) {s : Sta} (hs : s ∈ L) : ∀ e ∈ s.es, e.2 < L.length := fun e he => by
  obtain ⟨t, ht⟩ := List.getElem?_of_mem hs
  obtain ⟨i, s0, _, _, _, h⟩ := o.back ht
  obtain ⟨_, _, _, i', hi', _⟩ := h.right he
  rw [← o.len]
  exact (List.getElem?_eq_some_iff.mp hi').1
theorem LeastOf.lv_self (o : LeastOf A L ord) (ok : AutOk A) {s : Sta} (hs : s ∈ L) : lv L s.es = s.es := lv_all fun e he => o.all_live ok (o.tlt hs e he)
theorem LeastOf.bis (o : LeastOf A L ord) (ok : AutOk A) {t i : Nat} (h : ord[t]? = some i) : Bis L A t i := by
  refine ⟨fun t j => ∃ i, ord[t]? = some i ∧ Bis A A i j, ⟨fun t j r => ?_⟩, i, h, o.refl ok h⟩
  obtain ⟨i, hi, b⟩ := r
  obtain ⟨s1, s2, h1, h2, h3, h4⟩ := bis_at b
  obtain ⟨s', g1, g2, g3⟩ := o.row t i s1 hi h1
  refine ⟨s', s2, g1, h2, g2.trans h3, ?_⟩
  rw [o.lv_self ok (List.mem_of_getElem? g1)]
  exact (g3.trans h4).mono fun k j ⟨m, ⟨i', hi', b1⟩, b2⟩ => ⟨i', hi', bis_trans b1 b2⟩
theorem LeastOf.eq (o : LeastOf A L ord) (ok : AutOk A) {t u : Nat} (b : Bis L L t u) : t = u := by
  obtain ⟨s, s', h1, h2, _⟩ := bis_at b
  obtain ⟨i, _, hi, _⟩ := o.back h1
  obtain ⟨j, _, hj, _⟩ := o.back h2
  exact o.di t u i j hi hj (bis_trans (bis_symm (o.bis ok hi)) (bis_trans b (o.bis ok hj)))
theorem sub_fields (A : Aut) (es : List (Str × Nat)) : ((lv A es).map (·.1)).Sublist (es.map (·.1)) := by
  unfold lv
  exact List.Sublist.map _ List.filter_sublist
theorem LeastOf.ok (o : LeastOf A L ord) (ok : AutOk A) (hl : L.length ≤ 100) : AutOk L := by
  refine ⟨fun s hs => o.tlt hs, fun s hs => ?_, fun s hs => ?_, hl⟩
  · obtain ⟨t, ht⟩ := List.getElem?_of_mem hs
    obtain ⟨i, s0, _, h0, _, h⟩ := o.back ht
    rw [h.fields]
    exact (ok.nd s0 (List.mem_of_getElem? h0)).sublist (sub_fields A s0.es)
  · obtain ⟨t, ht⟩ := List.getElem?_of_mem hs
    obtain ⟨i, s0, _, h0, _, h⟩ := o.back ht
    have e := congrArg List.length h.fields
    rw [List.length_map, List.length_map] at e
    have e2 := (sub_fields A s0.es).length_le
    rw [List.length_map, List.length_map] at e2
    have := ok.le s0 (List.mem_of_getElem? h0)
    omega
theorem LeastOf.len_le (o : LeastOf A L ord) (ok : AutOk A) : L.length ≤ A.length := by
  rw [← o.len]
  have nd : ord.Nodup := by
    rw [List.nodup_iff_pairwise_ne, List.pairwise_iff_getElem]
    intro t u ht hu lt e
    have h1 := List.getElem?_eq_getElem ht
    have h2 := List.getElem?_eq_getElem hu
    have := o.di t u _ _ h1 h2 (by rw [← e]; exact o.refl ok h1)
    omega
  have := len_nd nd fun i hi => by
    obtain ⟨t, ht⟩ := List.getElem?_of_mem hi
    exact List.mem_range.mpr (o.live t i ht).lt
  rw [List.length_range] at this
  exact this
theorem par {ord' : List Nat} (inj : ∀ t u i : Nat, ord'[t]? = some i → ord'[u]? = some i → t = u) : ∀ {es' es : List (Str × Nat)}, EdR (fun k j => ord'[k]? = some j) es' es → ∀ {m m1 m2 : Nat}, (∀ k, k < m → ord'[k]? = some k) → seqM m (es'.map (·.2)) = some m1 → seqM m (es.map (·.2)) = some m2 → es' = es ∧ m1 = m2 ∧ ∀ k, k < m1 → ord'[k]? = some k := by
  intro es' es h
  induction h with
  | nil => intro m m1 m2 hm h1 h2; cases h1; cases h2; exact ⟨rfl, rfl, hm⟩
  | @cons f k j a b r _ ih =>
    intro m m1 m2 hm h1 h2
    rw [List.map_cons, seqM] at h1 h2
    simp only at h1 h2 r
    have kj : k = j ∧ ((k < m) ∨ (k = m)) := by
      by_cases c : j < m
      · have := hm j c
        have e := inj k j j r this
        exact ⟨e, .inl (e ▸ c)⟩
      · rw [if_neg c] at h2
        by_cases c2 : j = m
        · by_cases c3 : k < m
          · have := hm k c3
            rw [r] at this
            have : j = k := Option.some.inj this
            omega
          · rw [if_neg c3] at h1
            by_cases c4 : k = m
            · exact ⟨by omega, .inr c4⟩
            · rw [if_neg c4] at h1; cases h1
        · rw [if_neg c2] at h2; cases h2
    obtain ⟨rfl, c⟩ := kj
    rcases c with c | c
    · rw [if_pos c] at h1 h2
      obtain ⟨e1, e2, e3⟩ := ih hm h1 h2
      exact ⟨by rw [e1], e2, e3⟩
    · have n : ¬ k < m := by omega
      rw [if_neg n, if_pos c] at h1 h2
      obtain ⟨e1, e2, e3⟩ := ih (m := m + 1) (fun q hq => by
        by_cases z : q < m
        · exact hm q z
        · have : q = k := by omega
          rw [this]; exact r) h1 h2
      exact ⟨by rw [e1], e2, e3⟩
theorem take_one {α : Type} {l : List α} {i : Nat} {x : α} (h : l[i]? = some x) : l.take (i + 1) = l.take i ++ [x] := by
  rw [List.take_add_one, h]; rfl
theorem flat_one {L : Aut} {t : Nat} {s : Sta} (h : L[t]? = some s) (m : Nat) : seqM m ((L.take (t + 1)).flatMap tgts) = (seqM m ((L.take t).flatMap tgts)).bind fun m' => seqM m' (tgts s) := by
  rw [take_one h, List.flatMap_append, seqM_app]
  simp
theorem flat_some {L : Aut} (c : Canon L) {t : Nat} (h : t ≤ L.length) : ∃ m, seqM 1 ((L.take t).flatMap tgts) = some m := by
  by_cases e : t < L.length
  · obtain ⟨m, hm, _⟩ := c.go t e
    exact ⟨m, hm⟩
  · rw [show t = L.length by omega, List.take_length]
    exact ⟨_, c.fin⟩
theorem least_self {ord' : List Nat} (o : LeastOf A L ord) (ok : AutOk A) (o' : LeastOf L L' ord') : L' = L := by
  have inj : ∀ t u i : Nat, ord'[t]? = some i → ord'[u]? = some i → t = u := fun t u i h1 h2 => by
    have l := o'.live t i h1
    exact o'.di t u i i h1 h2 (bis_refl l.lt fun s hs => o.tlt hs)
  have P : ∀ t, t ≤ L.length → t ≤ L'.length → L'.take t = L.take t ∧ ∀ m, seqM 1 ((L.take t).flatMap tgts) = some m → ∀ k, k < m → ord'[k]? = some k := by
    intro t
    induction t with
    | zero =>
      intro _ _
      refine ⟨rfl, fun m h k hk => ?_⟩
      cases h
      have : k = 0 := by omega
      rw [this]; exact o'.z
    | succ t ih =>
      intro h1 h2
      obtain ⟨e, hk⟩ := ih (by omega) (by omega)
      obtain ⟨m, hm, lt⟩ := o.can.go t h1
      have ho := hk m hm t lt
      have g := List.getElem?_eq_getElem (l := L) h1
      obtain ⟨s', r1, r2, r3⟩ := o'.row t t _ ho g
      rw [o.lv_self ok (List.getElem_mem h1)] at r3
      have r4 : EdR (fun k j => ord'[k]? = some j) s'.es (L[t]).es := r3.mono fun k j ⟨i', hi', b⟩ => by rw [hi', o.eq ok b]
      obtain ⟨m1, hm1⟩ := flat_some o.can (t := t + 1) h1
      obtain ⟨m2, hm2⟩ := flat_some o'.can (t := t + 1) h2
      rw [flat_one g, hm] at hm1
      rw [flat_one r1, e, hm] at hm2
      obtain ⟨e1, e2, e3⟩ := par inj r4 (hk m hm) hm2 hm1
      have es : s' = L[t] := by
        cases s'
        cases hL : L[t]
        rw [hL] at r2 e1
        simp only at r2 e1
        rw [r2, e1]
      refine ⟨by rw [take_one g, take_one r1, e, es], fun m3 h3 => ?_⟩
      rw [flat_one g, hm, hm1] at h3
      cases h3
      rw [← e2]
      exact e3
  have le : ∀ n, n ≤ L.length → n ≤ L'.length → (n = L.length → n = L'.length) ∧ (n = L'.length → n = L.length) := fun n h1 h2 => by
    obtain ⟨e, _⟩ := P n h1 h2
    refine ⟨fun z => ?_, fun z => ?_⟩
    · by_cases c : n < L'.length
      · obtain ⟨m, hm, lt⟩ := o'.can.go n c
        rw [e, z, List.take_length, o.can.fin] at hm
        cases hm
        omega
      · omega
    · by_cases c : n < L.length
      · obtain ⟨m, hm, lt⟩ := o.can.go n c
        rw [← e, z, List.take_length, o'.can.fin] at hm
        cases hm
        omega
      · omega
  have el : L'.length = L.length := by
    rcases Nat.le_total L.length L'.length with h | h
    · have := (le L.length (Nat.le_refl _) h).1 rfl; omega
    · have := (le L'.length h (Nat.le_refl _)).2 rfl; omega
  obtain ⟨e, _⟩ := P L.length (Nat.le_refl _) (by omega)
  rw [List.take_length, ← el, List.take_length] at e
  exact e
theorem least_least (l : IsLeast A L) (ok : AutOk A) (l' : IsLeast L L') : L' = L := by
  cases l with
  | none n =>
    cases l' with
    | none _ => rfl
    | some h _ => exact absurd h.lt (by simp)
  | some h o =>
    cases l' with
    | none n =>
      have : 0 < L.length := by
        rw [← o.len]
        exact (List.getElem?_eq_some_iff.mp o.z).1
      exact absurd (o.all_live ok this) n
    | some _ o' => exact least_self o ok o'
theorem least_bis (l : IsLeast A L) (ok : AutOk A) (h : Live A 0) : Bis L A 0 0 ∧ L ≠ [] := by
  cases l with
  | none n => exact absurd h n
  | some _ o =>
    refine ⟨o.bis ok o.z, fun e => ?_⟩
    have := (List.getElem?_eq_some_iff.mp o.z).1
    rw [o.len, e] at this
    cases this
def shift (s : Sta) : Sta := ⟨s.ends, s.es.map fun e => (e.1, e.2 + 1)⟩
def rootA (A : Aut) (i : Nat) : Aut := ((A.map shift)[i]?).toList ++ A.map shift
theorem rootA_eq {i : Nat} (h : i < A.length) : rootA A i = shift A[i] :: A.map shift := by
  have e : (A.map shift)[i]? = some (shift A[i]) := by rw [List.getElem?_map, List.getElem?_eq_getElem h]; rfl
  unfold rootA
  rw [e]; rfl
theorem root_at {i j : Nat} (h : i < A.length) : (rootA A i)[j + 1]? = (A[j]?).map shift := by
  rw [rootA_eq h, List.getElem?_cons_succ, List.getElem?_map]
theorem root_0 {i : Nat} (h : i < A.length) : (rootA A i)[0]? = (A[i]?).map shift := by
  rw [rootA_eq h, List.getElem?_eq_getElem h]; rfl
theorem root_len {i : Nat} (h : i < A.length) : (rootA A i).length = A.length + 1 := by
  rw [rootA_eq h, List.length_cons, List.length_map]
theorem root_bis (ok : AutOk A) {i : Nat} (h : i < A.length) : Bis (rootA A i) A 0 i := by
  have up : ∀ j, Live A j → Live (rootA A i) (j + 1) := fun j l => by
    induction l with
    | @fin j s a e => exact .fin (s := shift s) (by rw [root_at h, a]; rfl) e
    | @step j s e a he _ ih => exact .step (s := shift s) (e := (e.1, e.2 + 1)) (by rw [root_at h, a]; rfl) (List.mem_map.mpr ⟨e, he, rfl⟩) ih
  have dn : ∀ t, Live (rootA A i) t → ∀ j, t = j + 1 → Live A j := fun t l => by
    induction l with
    | @fin t s a e =>
      intro j ej
      rw [ej, root_at h] at a
      obtain ⟨s0, h0, rfl⟩ := Option.map_eq_some_iff.mp a
      exact .fin h0 e
    | @step t s e a he _ ih =>
      intro j ej
      rw [ej, root_at h] at a
      obtain ⟨s0, h0, rfl⟩ := Option.map_eq_some_iff.mp a
      obtain ⟨e0, he0, rfl⟩ := List.mem_map.mp he
      exact .step h0 he0 (ih e0.2 rfl)
  have key : ∀ es : List (Str × Nat), EdR (fun t j => (t = 0 ∧ j = i ∨ t = j + 1) ∧ j < A.length) (lv (rootA A i) (es.map fun e => (e.1, e.2 + 1))) (lv A es) := by
    intro es
    induction es with
    | nil =>
      have e1 : lv (rootA A i) (([] : List (Str × Nat)).map fun e => (e.1, e.2 + 1)) = [] := by unfold lv; rfl
      have e2 : lv A [] = [] := by unfold lv; rfl
      rw [e1, e2]; exact .nil
    | cons e es ih =>
      by_cases l : Live A e.2
      · have e1 : lv (rootA A i) ((e :: es).map fun e => (e.1, e.2 + 1)) = (e.1, e.2 + 1) :: lv (rootA A i) (es.map fun e => (e.1, e.2 + 1)) := by
          unfold lv; rw [List.map_cons, List.filter_cons_of_pos]; simpa using up _ l
        have e2 : lv A (e :: es) = e :: lv A es := by unfold lv; rw [List.filter_cons_of_pos]; simpa using l
        rw [e1, e2]
        exact .cons ⟨.inr rfl, l.lt⟩ ih
      · have e1 : lv (rootA A i) ((e :: es).map fun e => (e.1, e.2 + 1)) = lv (rootA A i) (es.map fun e => (e.1, e.2 + 1)) := by
          unfold lv; rw [List.map_cons, List.filter_cons_of_neg]; simpa using fun z => l (dn _ z _ rfl)
        have e2 : lv A (e :: es) = lv A es := by unfold lv; rw [List.filter_cons_of_neg]; simpa using l
        rw [e1, e2]
        exact ih
  refine ⟨fun t j => (t = 0 ∧ j = i ∨ t = j + 1) ∧ j < A.length, ⟨fun t j r => ?_⟩, ⟨.inl ⟨rfl, rfl⟩, h⟩⟩
  obtain ⟨r, lj⟩ := r
  have g := List.getElem?_eq_getElem lj
  refine ⟨shift A[j], A[j], ?_, g, rfl, key _⟩
  rcases r with ⟨rfl, rfl⟩ | rfl
  · rw [root_0 h, g]; rfl
  · rw [root_at h, g]; rfl
theorem root_ok (ok : AutOk A) {i : Nat} (h : i < A.length) (l : A.length < 100) : AutOk (rootA A i) := by
  have two : ∀ s ∈ rootA A i, ∃ s0 ∈ A, s = shift s0 := fun s hs => by
    unfold rootA at hs
    rcases List.mem_append.mp hs with hs | hs
    · obtain ⟨s0, h0, e⟩ := List.mem_map.mp (List.mem_of_getElem? (Option.mem_toList.mp hs))
      exact ⟨s0, h0, e.symm⟩
    · obtain ⟨s0, h0, e⟩ := List.mem_map.mp hs
      exact ⟨s0, h0, e.symm⟩
  refine ⟨fun s hs e he => ?_, fun s hs => ?_, fun s hs => ?_, by rw [root_len h]; omega⟩
  · obtain ⟨s0, h0, rfl⟩ := two s hs
    obtain ⟨e0, he0, rfl⟩ := List.mem_map.mp he
    rw [root_len h]
    have := ok.lt s0 h0 e0 he0
    show e0.2 + 1 < _
    omega
  · obtain ⟨s0, h0, rfl⟩ := two s hs
    show ((s0.es.map fun e => (e.1, e.2 + 1)).map (·.1)).Nodup
    rw [List.map_map]
    exact ok.nd s0 h0
  · obtain ⟨s0, h0, rfl⟩ := two s hs
    show (s0.es.map _).length ≤ 20
    rw [List.length_map]; exact ok.le s0 h0
end
end K40
set_option maxHeartbeats 0
namespace K40
open PySem L2 DL
theorem fg {α : Type} {m : W α} {h : DH} {Q : α → DH → Prop} {E : EKt} (x : m.run h Q E) : (W.forget m).run h Q E := m.mono (fun _ h' q => ⟨h', Sub.refl, q⟩) x
theorem frx_del {S : Addr → Prop} {h1 h2 : DH} {f : Addr} (fr : FrX S h1 h2) (hf : h1 f = none) : FrX S h1 (h2.del f) := fun q u eq nq => by
  show (if q = f then none else h2 q) = _
  rw [if_neg fun z => by rw [z, hf] at eq; cases eq]
  exact fr q u eq nq
theorem del_ne {h : DH} {a b : Addr} (n : b ≠ a) : h.del a b = h b := by
  show (if b = a then none else h b) = _
  rw [if_neg n]
theorem fr_none {h h' : DH} {p : Addr} (fr : Fr h h') (hp : h' p = none) : h p = none := by
  cases e : h p with
  | none => rfl
  | some o => rw [fr.at_ e] at hp; cases hp
theorem ixN_n {n i : Nat} (h : i < n) : ixN n (i : Int) = some i := by
  unfold ixN
  rw [if_pos (Int.natCast_nonneg i), if_pos (by omega)]
  simp
section
variable {h : DH} {E : EKt}
theorem live_comp {α : Type} (mk : α → D) (g : α → Option D) (as : List α) {chk : DH → Prop} {body : D → W (Option D)} {Q : D → DH → Prop} (hl : as.length ≤ sizeLine) (hc : ∀ h2, Fr h h2 → chk h2)
    (hb : ∀ a ∈ as, ∀ (h2 : DH) (Q' : Option D → DH → Prop), Fr h h2 → Q' (g a) h2 → (body (mk a)).run h2 Q' E) (q : ∀ p, h p = none → Q (.ref p) (h.upd p (.lst (as.filterMap g)))) :
    (W.new (.lst [])).run h (fun p h1 => (compW chk body p (as.map mk)).run h1 (fun _ h2 => Q p h2) E) E := by
  intro p hp
  have main : ∀ (l : List α) (acc : List D), (∀ x ∈ l, x ∈ as) → acc.length + l.length ≤ sizeLine → (compW chk body (.ref p) (l.map mk)).run (h.upd p (.lst acc)) (fun _ h2 => h2 = h.upd p (.lst (acc ++ l.filterMap g))) E := by
    intro l
    induction l with
    | nil => intro acc _ _; exact ⟨hc _ (FrX.new hp), by simp⟩
    | cons x l ih =>
      intro acc hm hz
      rw [List.length_cons] at hz
      refine ⟨hc _ (FrX.new hp), hb x (hm x List.mem_cons_self) _ _ (FrX.new hp) ?_⟩
      cases e : g x with
      | none =>
        show (compW chk body (.ref p) (l.map mk)).run _ _ E
        have := ih acc (fun y hy => hm y (List.mem_cons_of_mem _ hy)) (by omega)
        rw [List.filterMap_cons, e]
        exact this
      | some d =>
        refine ⟨acc, DH.upd_same, by omega, ?_⟩
        rw [show (h.upd p (.lst acc)).upd p (.lst (acc ++ [d])) = h.upd p (.lst (acc ++ [d])) from fv_updupd]
        have := ih (acc ++ [d]) (fun y hy => hm y (List.mem_cons_of_mem _ hy)) (by rw [List.length_append]; simp; omega)
        rw [List.filterMap_cons, e]
        simp only
        rw [List.append_assoc] at this
        exact this
  refine run_conseq (main as [] (fun _ hx => hx) (by simpa using hl)) fun _ h2 e => ?_
  rw [e, List.nil_append]
  exact q p hp
theorem st_at {f : Addr} {xs : List D} {i : Nat} {v : D} {Q : Unit → DH → Prop} (e : h f = some (.lst xs)) (hi : i < xs.length) (q : Q () (h.upd f (.lst (xs.set i v)))) : (st2 (.ref f) (.int i) v).run h Q E :=
  ⟨_, e, i, ixN_n hi, q⟩
theorem ix_at {f : Addr} {xs : List D} {i : Nat} {x : D} {Q : D → DH → Prop} (e : h f = some (.lst xs)) (hx : xs[i]? = some x) (q : Q x h) : (opIx2 (.ref f) (.int i)).run h Q E :=
  ⟨_, e, x, by rw [DL.atI_nat]; exact hx, q⟩
theorem ixt_at {xs : List D} {i : Nat} {x : D} {Q : D → DH → Prop} (hx : xs[i]? = some x) (q : Q x h) : (opIx2 (.tup xs) (.int i)).run h Q E := ⟨x, by rw [DL.atI_nat]; exact hx, q⟩
theorem ixc_at {xs : List D} {i : Nat} {x : D} {Q : D → DH → Prop} (hx : xs[i]? = some x) (q : Q x h) : (opIx2 (.cl xs) (.int i)).run h Q E := ⟨x, by rw [DL.atI_nat]; exact hx, q⟩
theorem app_at {f : Addr} {xs : List D} {v : D} {Q : D → DH → Prop} (e : h f = some (.lst xs)) (hl : xs.length < sizeLine) (q : Q .non (h.upd f (.lst (xs ++ [v])))) : (mAppend (.ref f) [v]).run h Q E := ⟨_, e, hl, q⟩
end
theorem sz_le {n : Nat} (h : n ≤ 10000) : n ≤ sizeLine := Nat.le_trans h (by decide)
def nI (n : Nat) : D := .int (n : Int)
def nl (l : List Nat) : D := .cl (l.map nI)
section
variable {A : Aut} {h : DH} {E : EKt}
def addS (i : Nat) : List (List Nat) → List (Str × Nat) → List (List Nat)
  | ss, [] => ss
  | ss, e :: es => addS i (ss.set e.2 ((ss[e.2]?).getD [] ++ [i])) es
theorem addS_len (i : Nat) : ∀ (es : List (Str × Nat)) (ss : List (List Nat)), (addS i ss es).length = ss.length
  | [], _ => rfl
  | e :: es, ss => by rw [addS, addS_len i es, List.length_set]
theorem addS_mem (i : Nat) : ∀ (es : List (Str × Nat)) (ss : List (List Nat)) (k : Nat) (l : List Nat), (addS i ss es)[k]? = some l → ∃ l0, ss[k]? = some l0 ∧ l.length ≤ l0.length + es.length ∧ ∀ j, j ∈ l ↔ j ∈ l0 ∨ (j = i ∧ ∃ e ∈ es, e.2 = k)
  | [], ss, k, l, h => ⟨l, h, by simp, fun j => by simp⟩
  | e :: es, ss, k, l, h => by
    rw [addS] at h
    obtain ⟨l1, h1, h2, h3⟩ := addS_mem i es _ k l h
    by_cases c : e.2 = k
    · have lt : k < ss.length := by
        have := (List.getElem?_eq_some_iff.mp h1).1
        rw [List.length_set] at this
        exact this
      rw [c, List.getElem?_set_self lt, List.getElem?_eq_getElem lt] at h1
      have h1 := Option.some.inj h1
      refine ⟨ss[k], List.getElem?_eq_getElem lt, ?_, fun j => ?_⟩
      · rw [← h1] at h2
        simp at h2 ⊢; omega
      · rw [h3, ← h1]
        have ex : (∃ e' ∈ e :: es, e'.2 = k) := ⟨e, List.mem_cons_self, c⟩
        rw [List.mem_append, List.mem_singleton]
        constructor
        · rintro ((z | z) | ⟨z, _⟩)
          · exact .inl z
          · exact .inr ⟨z, ex⟩
          · exact .inr ⟨z, ex⟩
        · rintro (z | ⟨z, _⟩)
          · exact .inl (.inl z)
          · exact .inl (.inr z)
    · rw [List.getElem?_set_ne c] at h1
      refine ⟨l1, h1, by rw [List.length_cons]; omega, fun j => ?_⟩
      rw [h3]
      simp [c]
theorem l1_lively_run {a : Addr} {i : Nat} : ∀ (es : List (Str × Nat)) (ss : List (List Nat)) (h : DH), h a = some (.lst (ss.map nl)) → (∀ e ∈ es, e.2 < ss.length) → (∀ l ∈ ss, l.length + es.length ≤ 10000) → ∀ {Q : Fl Unit Unit → DH → Prop}, Q (.nx ()) (h.upd a (.lst ((addS i ss es).map nl))) →
    (forW (fun _ => True) (fun d c => uP (.tp [.nm, .nm]) d fun ds17 => l2_lively_states (.ref a) (.int (i : Int)) (ds17.getD 0 .non) (ds17.getD 1 .non) c) (es.map edgD) ()).run h Q E
  | [], ss, h, ha, _, _, Q, q => by
    have e : h.upd a (.lst ((addS i ss []).map nl)) = h := by
      funext b
      by_cases c : b = a
      · subst c; rw [DH.upd_same]; exact ha.symm
      · rw [DH.upd_ne c]
    rw [e] at q
    exact ⟨trivial, q⟩
  | e :: es, ss, h, ha, lt, sz, Q, q => by
    have le := lt e List.mem_cons_self
    have g : (ss.map nl)[e.2]? = some (nl ss[e.2]) := by rw [List.getElem?_map, List.getElem?_eq_getElem le]; rfl
    have gl := sz _ (List.getElem_mem le)
    rw [List.length_cons] at gl
    rw [List.map_cons]
    simp? only [edgD, l2_lively_states]
    refine ⟨_, rfl, ?_⟩
    simp? only [true_and]
    refine ix_at ha g ?_
    refine ⟨?_, ?_⟩
    · rw [List.length_map]
      refine sz_le ?_
      simp; omega
    refine st_at ha (by rw [List.length_map]; exact le) ?_
    have e1 : (ss.map nl).set e.2 (.cl (ss[e.2].map nI ++ [.int (i : Int)])) = (ss.set e.2 ((ss[e.2]?).getD [] ++ [i])).map nl := by
      rw [List.map_set, List.getElem?_eq_getElem le]
      unfold nl
      simp [nI]
    rw [e1]
    have r := l1_lively_run (a := a) (i := i) es (ss.set e.2 ((ss[e.2]?).getD [] ++ [i])) (h.upd a (.lst ((ss.set e.2 ((ss[e.2]?).getD [] ++ [i])).map nl))) DH.upd_same (fun e' he' => by rw [List.length_set]; exact lt e' (List.mem_cons_of_mem _ he')) (fun l hl => by
      rcases List.mem_or_eq_of_mem_set hl with z | z
      · have := sz l z
        rw [List.length_cons] at this; omega
      · rw [z, List.getElem?_eq_getElem le]
        simp; omega) (Q := Q) (by
      rw [show (h.upd a (.lst ((ss.set e.2 ((ss[e.2]?).getD [] ++ [i])).map nl))).upd a (.lst ((addS i (ss.set e.2 ((ss[e.2]?).getD [] ++ [i])) es).map nl)) = h.upd a (.lst ((addS i (ss.set e.2 ((ss[e.2]?).getD [] ++ [i])) es).map nl)) from fv_updupd]
      exact q)
    exact r
theorem autN (A : Aut) (i : Nat) : (numbered 0 (A.map Sta.d))[i]? = (A[i]?).map fun s => .tup [.int (i : Int), s.d] := by
  rw [numbered_get, List.getElem?_map, Option.map_map]
  cases A[i]? with
  | none => rfl
  | some s => simp
def Srcs (A : Aut) (ss : List (List Nat)) : Prop := ss.length = A.length ∧ ∀ (k : Nat) (l : List Nat), ss[k]? = some l → l.length ≤ 2000 ∧ ∀ j, j ∈ l ↔ ∃ s : Sta, A[j]? = some s ∧ ∃ e ∈ s.es, e.2 = k
structure FlI (A : Aut) (ss : List (List Nat)) (fl : List Bool) (wt : List Nat) (last : Option Nat) : Prop where
  len : fl.length = A.length
  sound : ∀ i : Nat, fl[i]? = some true → Live A i
  ends : ∀ (i : Nat) (s : Sta), A[i]? = some s → s.ends = true → fl[i]? = some true
  mark : ∀ i ∈ wt, fl[i]? = some true
  clo : ∀ i : Nat, fl[i]? = some true → i ∈ wt ∨ some i = last ∨ ∀ l : List Nat, ss[i]? = some l → ∀ j ∈ l, fl[j]? = some true
theorem cf_set {fl : List Bool} {i : Nat} (h : fl[i]? = some false) : (fl.set i true).count false + 1 = fl.count false := by
  induction fl generalizing i with
  | nil => simp at h
  | cons b fl ih =>
    cases i with
    | zero =>
      have : b = false := by simpa using h
      subst this
      simp
    | succ i =>
      have h' : fl[i]? = some false := by simpa using h
      have := ih h'
      rw [List.set_cons_succ, List.count_cons, List.count_cons]
      omega
def blD (b : Bool) : D := .bl b
theorem set_keep {fl : List Bool} {i k : Nat} (h : fl[i]? = some true) : (fl.set k true)[i]? = some true := by
  by_cases c : k = i
  · subst c
    rw [List.getElem?_set_self (List.getElem?_eq_some_iff.mp h).1]
  · rw [List.getElem?_set_ne c]; exact h
theorem set_inv {fl : List Bool} {i k : Nat} (h : (fl.set k true)[i]? = some true) : i = k ∨ fl[i]? = some true := by
  by_cases c : k = i
  · exact .inl c.symm
  · rw [List.getElem?_set_ne c] at h; exact .inr h
theorem FlI.add {ss : List (List Nat)} {fl : List Bool} {wt : List Nat} {last : Option Nat} (I : FlI A ss fl wt last) {k : Nat} (l : Live A k) : FlI A ss (fl.set k true) (wt ++ [k]) last := by
  have lt : k < fl.length := by rw [I.len]; exact l.lt
  refine ⟨by rw [List.length_set]; exact I.len, fun i hi => ?_, fun i s hs e => set_keep (I.ends i s hs e), fun i hi => ?_, fun i hi => ?_⟩
  · rcases set_inv hi with rfl | z
    · exact l
    · exact I.sound i z
  · rcases List.mem_append.mp hi with z | z
    · exact set_keep (I.mark i z)
    · rw [List.mem_singleton.mp z]
      exact List.getElem?_set_self lt
  · rcases set_inv hi with rfl | z
    · exact .inl (by simp)
    · rcases I.clo i z with z | z | z
      · exact .inl (List.mem_append_left _ z)
      · exact .inr (.inl z)
      · exact .inr (.inr fun l hl j hj => set_keep (z l hl j hj))
theorem l3_lively_run {ss : List (List Nat)} (hs : Srcs A ss) (ok : AutOk A) {f w : Addr} (ne : f ≠ w) {fl : List Bool} {wt : List Nat} {last : Nat} (I : FlI A ss fl (wt ++ [last]) none) (h0 : DH) (fr : Fr h0 h) (nf : h0 f = none) (nw : h0 w = none) (hf : h f = some (.lst (fl.map blD))) (hw : h w = some (.lst ((wt ++ [last]).map nI))) (sz : wt.length + 1 + 2 * fl.count false ≤ 1000) {Q : Fl Unit Unit → DH → Prop}
    (q : ∀ fl' wt' h', FlI A ss fl' wt' none → Fr h0 h' → h' f = some (.lst (fl'.map blD)) → h' w = some (.lst (wt'.map nI)) → wt'.length + 2 * fl'.count false < (wt ++ [last]).length + 2 * fl.count false → Q (.nx ()) h') :
    (l3_lively_states (.ref w) (.cl (ss.map nl)) (.ref f) ()).run h Q E := by
  have hm := I.mark last (by simp)
  have lt : last < A.length := by rw [← I.len]; exact (List.getElem?_eq_some_iff.mp hm).1
  have lts : last < ss.length := by rw [hs.1]; exact lt
  have gl : (ss.map nl)[last]? = some (nl ss[last]) := by rw [List.getElem?_map, List.getElem?_eq_getElem lts]; rfl
  obtain ⟨sl, sm⟩ := hs.2 last ss[last] (List.getElem?_eq_getElem lts)
  unfold l3_lively_states
  simp? only [true_and]
  refine ⟨⟨_, hw⟩, ?_⟩
  rw [List.map_append] at hw
  refine pop_lst hw ?_
  intro h1 e1
  have nfw : f ≠ w := ne
  have hf1 : h1 f = some (.lst (fl.map blD)) := by rw [e1, DH.upd_ne nfw]; exact hf
  have hw1 : h1 w = some (.lst (wt.map nI)) := by rw [e1, DH.upd_same]
  have fr1 : Fr h0 h1 := by rw [e1]; exact FrX.put fr nw
  refine ixc_at gl ?_
  simp? only [nl]
  refine run_for (fun j _ h' => ∃ fl' wt', FlI A ss fl' wt' (some last) ∧ Fr h0 h' ∧ h' f = some (.lst (fl'.map blD)) ∧ h' w = some (.lst (wt'.map nI)) ∧ (∀ k ∈ (ss[last]).take j, fl'[k]? = some true) ∧ wt'.length + 2 * fl'.count false ≤ wt.length + 2 * fl.count false)
    ⟨fl, wt, ⟨I.len, I.sound, I.ends, fun i hi => I.mark i (List.mem_append_left _ hi), fun i hi => ?_⟩, fr1, hf1, hw1, fun k hk => (nomatch hk), Nat.le_refl _⟩ ?_ ?_
  · rcases I.clo i hi with z | z | z
    · rcases List.mem_append.mp z with z | z
      · exact .inl z
      · rw [List.mem_singleton.mp z]; exact .inr (.inl rfl)
    · cases z
    · exact .inr (.inr z)
  · rintro j _ h2 x hx ⟨fl', wt', I2, fr2, hf2, hw2, pd, ms⟩
    rw [List.getElem?_map] at hx
    obtain ⟨k, hk, rfl⟩ := Option.map_eq_some_iff.mp hx
    obtain ⟨s, hs1, e, he, e2⟩ := (sm k).mp (List.mem_of_getElem? hk)
    have lk : Live A k := .step hs1 he (e2 ▸ I.sound last hm)
    have tk : (ss[last]).take (j + 1) = (ss[last]).take j ++ [k] := take_one hk
    have ltf : k < fl'.length := by rw [I2.len]; exact lk.lt
    have gf : (fl'.map blD)[k]? = some (blD fl'[k]) := by rw [List.getElem?_map, List.getElem?_eq_getElem ltf]; rfl
    refine ⟨trivial, ?_⟩
    unfold l4_lively_states
    simp? only [true_and]
    refine ix_at hf2 gf ?_
    simp? only [blD]
    cases c : fl'[k] with
    | true =>
      simp? only [true_and]
      refine ⟨fl', wt', I2, fr2, hf2, hw2, fun k' hk' => ?_, ms⟩
      rw [tk] at hk'
      rcases List.mem_append.mp hk' with z | z
      · exact pd k' z
      · rw [List.mem_singleton.mp z, List.getElem?_eq_getElem ltf, c]
    | false =>
      have gk : fl'[k]? = some false := by rw [List.getElem?_eq_getElem ltf, c]
      have cf := cf_set gk
      simp? only [true_and]
      refine st_at hf2 (by rw [List.length_map]; exact ltf) ?_
      have hw3 : (h2.upd f (.lst ((fl'.map blD).set k (.bl true)))) w = some (.lst (wt'.map nI)) := by rw [DH.upd_ne (Ne.symm nfw)]; exact hw2
      refine ⟨⟨_, hw3⟩, ?_⟩
      refine ⟨_, hw3, Nat.lt_of_lt_of_le (by rw [List.length_map]; show wt'.length < 10000; omega) (sz_le (Nat.le_refl _)), ?_⟩
      refine ⟨fl'.set k true, wt' ++ [k], I2.add lk, FrX.put (FrX.put fr2 nf) nw, ?_, ?_, fun k' hk' => ?_, ?_⟩
      · rw [DH.upd_ne nfw, DH.upd_same, List.map_set]; rfl
      · rw [DH.upd_same, List.map_append]; rfl
      · rw [tk] at hk'
        rcases List.mem_append.mp hk' with z | z
        · exact set_keep (pd k' z)
        · rw [List.mem_singleton.mp z]
          exact List.getElem?_set_self ltf
      · rw [List.length_append, List.length_singleton]; omega
  · rintro _ h2 ⟨fl', wt', I2, fr2, hf2, hw2, pd, ms⟩
    refine ⟨trivial, ?_⟩
    simp? only [true_and]
    refine q fl' wt' h2 ⟨I2.len, I2.sound, I2.ends, I2.mark, fun i hi => ?_⟩ fr2 hf2 hw2 (by rw [List.length_append, List.length_singleton]; omega)
    rcases I2.clo i hi with z | z | z
    · exact .inl z
    · cases z
      refine .inr (.inr fun l hl j hj => ?_)
      rw [List.getElem?_eq_getElem lts] at hl
      cases hl
      exact pd j (by rw [List.length_map, List.take_length]; exact hj)
    · exact .inr (.inr z)
theorem fl_done {ss : List (List Nat)} (hs : Srcs A ss) (ok : AutOk A) {fl : List Bool} (I : FlI A ss fl [] none) (i : Nat) : fl[i]? = some true ↔ Live A i := by
  refine ⟨I.sound i, fun l => ?_⟩
  induction l with
  | fin a e => exact I.ends _ _ a e
  | @step i s e a he l ih =>
    rcases I.clo _ ih with z | z | z
    · cases z
    · cases z
    · have lt : e.2 < ss.length := by rw [hs.1]; exact l.lt
      exact z _ (List.getElem?_eq_getElem lt) i (((hs.2 _ _ (List.getElem?_eq_getElem lt)).2 i).mpr ⟨s, a, e, he, rfl⟩)
end
end K40
set_option maxHeartbeats 0
namespace K40
open PySem L2 DL
section
variable {A : Aut} {h : DH} {E : EKt}
theorem new_ne {h : DH} {f : Addr} {o : O} {x : Addr} (hx : h x = none) (hf : h f = some o) : f ≠ x := fun z => by rw [z, hx] at hf; cases hf
theorem filt_src {l : List Nat} {p : Nat → Bool} : (l.filterMap fun i => if p i = true then some (nI i) else none) = (l.filter p).map nI := by
  induction l with
  | nil => rfl
  | cons x l ih =>
    rw [List.filterMap_cons]
    cases c : p x with
    | true => rw [List.filter_cons_of_pos c, if_pos rfl, List.map_cons, ih]
    | false =>
      rw [List.filter_cons_of_neg (by simp [c]), if_neg (by simp)]
      exact ih
theorem numb_range (fl : List Bool) : numbered 0 (fl.map blD) = (List.range fl.length).map fun (i : Nat) => D.tup [.int (i : Int), blD ((fl[i]?).getD false)] := by
  apply List.ext_getElem?
  intro i
  rw [numbered_get, List.getElem?_map, List.getElem?_map]
  by_cases c : i < fl.length
  · rw [List.getElem?_eq_getElem c, List.getElem?_eq_getElem (l := List.range fl.length) (by simpa using c)]
    simp [List.getElem?_eq_getElem c]
  · rw [List.getElem?_eq_none (by omega), List.getElem?_eq_none (by simpa using c)]
    rfl
theorem lively_run (ok : AutOk A) {Q : D → DH → Prop} (q : ∀ fl : List Bool, fl.length = A.length → (∀ i, fl[i]? = some true ↔ Live A i) → ∀ h', Fr h h' → Q (.cl (fl.map blD)) h') : (c_lively_states (autD A)).run h Q E := by
  refine fg ?_
  unfold cb_lively_states
  simp? only [autD]
  have le : A.length ≤ sizeLine := Nat.le_trans ok.len (by decide)
  refine live_comp Sta.d (fun _ => some (nl [])) A le (fun _ _ => trivial) (fun s _ h2 Q' _ q' => ?_) fun a ha => ?_
  · simp? only [Sta.d, m1_lively_states]
    exact q'
  refine live_comp Sta.d (fun s => some (blD s.ends)) A le (fun _ _ => trivial) (fun s _ h2 Q' _ q' => ?_) fun f hf => ?_
  · simp? only [Sta.d, m2_lively_states]
    refine ⟨_, rfl, ?_⟩
    simp? only [true_and]
    exact q'
  rw [show (A.filterMap fun _ => some (nl [])) = (A.map fun _ => ([] : List Nat)).map nl by rw [List.map_map]; exact congrFun (List.filterMap_eq_map (f := fun _ : Sta => nl [])) A,
    show (A.filterMap fun s => some (blD s.ends)) = (A.map (·.ends)).map blD by rw [List.map_map]; exact congrFun (List.filterMap_eq_map (f := fun s : Sta => blD s.ends)) A] at *
  simp? only [iEnum3]
  have af : a ≠ f := new_ne hf DH.upd_same
  have nf : h f = none := by rw [DH.upd_ne af.symm] at hf; exact hf
  refine run_for (fun i _ h' => ∃ ss, h' a = some (.lst (ss.map nl)) ∧ h' f = some (.lst ((A.map (·.ends)).map blD)) ∧ Fr h h' ∧ ss.length = A.length ∧ ∀ (k : Nat) (l : List Nat), ss[k]? = some l → l.length ≤ 20 * i ∧ ∀ j, j ∈ l ↔ j < i ∧ ∃ s : Sta, A[j]? = some s ∧ ∃ e ∈ s.es, e.2 = k)
    ⟨A.map fun _ => [], by rw [DH.upd_ne af, DH.upd_same], DH.upd_same, FrX.put (FrX.new ha) nf, List.length_map _, fun k l hl => ?_⟩ ?_ ?_
  · rw [List.getElem?_map] at hl
    obtain ⟨_, _, rfl⟩ := Option.map_eq_some_iff.mp hl
    simp
  · rintro i _ h2 x hx ⟨ss, ha2, hf2, fr2, sl, sm⟩
    rw [autN] at hx
    obtain ⟨s, hs, rfl⟩ := Option.map_eq_some_iff.mp hx
    have hsA := List.mem_of_getElem? hs
    have li := (List.getElem?_eq_some_iff.mp hs).1
    refine ⟨trivial, ⟨_, rfl, ?_⟩⟩
    unfold l1_lively_states
    simp? only [true_and]
    refine l1_lively_run s.es ss h2 ha2 (fun e he => by rw [sl]; exact ok.lt s hsA e he) (fun l hl => ?_) ?_
    · obtain ⟨k, hk⟩ := List.getElem?_of_mem hl
      have := (sm k l hk).1
      have := ok.le s hsA
      have := ok.len
      omega
    simp? only [true_and]
    refine ⟨addS i ss s.es, DH.upd_same, by rw [DH.upd_ne af.symm]; exact hf2, FrX.put fr2 ha, by rw [addS_len]; exact sl, fun k l hl => ?_⟩
    obtain ⟨l0, h0, h1, h3⟩ := addS_mem i s.es ss k l hl
    obtain ⟨g1, g2⟩ := sm k l0 h0
    have := ok.le s hsA
    refine ⟨by omega, fun j => ?_⟩
    rw [h3, g2]
    constructor
    · rintro (⟨z1, z2⟩ | ⟨z1, z2⟩)
      · exact ⟨by omega, z2⟩
      · rw [z1]; exact ⟨by omega, s, hs, z2⟩
    · rintro ⟨z1, z2⟩
      by_cases c : j = i
      · obtain ⟨s', hs', z3⟩ := z2
        rw [c, hs] at hs'
        cases hs'
        exact .inr ⟨c, z3⟩
      · exact .inl ⟨by omega, z2⟩
  rintro _ h2 ⟨ss, ha2, hf2, fr2, sl, sm⟩
  refine ⟨trivial, ?_⟩
  have hs : Srcs A ss := ⟨sl, fun k l hl => by
    obtain ⟨g1, g2⟩ := sm k l hl
    rw [numbered_len, List.length_map] at g1 g2
    have := ok.len
    refine ⟨by omega, fun j => ?_⟩
    rw [g2]
    exact ⟨fun z => z.2, fun z => ⟨by obtain ⟨s, hs, _⟩ := z; exact (List.getElem?_eq_some_iff.mp hs).1, z⟩⟩⟩
  simp? only [true_and]
  refine ⟨_, ha2, ?_⟩
  simp? only [true_and]
  have hf3 : (h2.del a) f = some (.lst ((A.map (·.ends)).map blD)) := by rw [del_ne af.symm]; exact hf2
  refine ⟨_, hf3, ?_⟩
  simp? only [true_and]
  rw [numb_range]
  generalize hfl : A.map (·.ends) = fl0 at *
  have lf : fl0.length = A.length := by rw [← hfl, List.length_map]
  have ff : Fr h (h2.del a) := frx_del fr2 ha
  refine live_comp (fun (i : Nat) => D.tup [.int (i : Int), blD ((fl0[i]?).getD false)]) (fun i => if (fl0[i]?).getD false = true then some (nI i) else none) (List.range fl0.length) (by rw [List.length_range, lf]; exact le) (fun h3 fr3 => fr3.at_ hf3) (fun i _ h3 Q' _ q' => ?_) fun w hw => ?_
  · unfold m3_lively_states
    refine ⟨_, rfl, ?_⟩
    simp? only [blD]
    cases c : (fl0[i]?).getD false with
    | true => simp? only [true_and]; rw [c, if_pos rfl] at q'; exact q'
    | false => simp? only [true_and]; rw [c, if_neg (by simp)] at q'; exact q'
  rw [filt_src]
  have nw : h w = none := fr_none ff hw
  have wf : f ≠ w := new_ne hw hf3
  have I0 : FlI A ss fl0 ((List.range fl0.length).filter fun i => (fl0[i]?).getD false) none := by
    refine ⟨lf, fun i hi => ?_, fun i s hs e => ?_, fun i hi => ?_, fun i hi => .inl ?_⟩
    · rw [← hfl, List.getElem?_map] at hi
      obtain ⟨s, hs, e⟩ := Option.map_eq_some_iff.mp hi
      exact .fin hs e
    · rw [← hfl, List.getElem?_map, hs, Option.map_some, e]
    · have := (List.mem_filter.mp hi).2
      cases e : fl0[i]? with
      | none => rw [e] at this; simp at this
      | some b => rw [e] at this; rw [show b = true from by simpa using this]
    · refine List.mem_filter.mpr ⟨List.mem_range.mpr (List.getElem?_eq_some_iff.mp hi).1, by rw [hi]; rfl⟩
  have l0 : ((List.range fl0.length).filter fun i => (fl0[i]?).getD false).length ≤ 100 := by
    have h1 := List.length_filter_le (fun i => (fl0[i]?).getD false) (List.range fl0.length)
    rw [List.length_range] at h1
    have := ok.len; omega
  have c0 : fl0.count false ≤ 100 := by
    have := List.count_le_length (a := false) (l := fl0)
    have := ok.len; omega
  generalize (List.range fl0.length).filter (fun i => (fl0[i]?).getD false) = wt0 at I0 l0
  refine run_while (L := Unit) (fun n _ h' => ∃ fl wt, FlI A ss fl wt none ∧ Fr h h' ∧ h' f = some (.lst (fl.map blD)) ∧ h' w = some (.lst (wt.map nI)) ∧ n = wt.length + 2 * fl.count false ∧ n ≤ 1000) (n := wt0.length + 2 * fl0.count false)
    ⟨fl0, wt0, I0, FrX.put ff nw, by rw [DH.upd_ne wf]; exact hf3, DH.upd_same, rfl, by omega⟩ ?_
  rintro n _ h3 ⟨fl, wt, I, fr3, hf4, hw4, rfl, nn⟩
  simp? only [true_and]
  refine ⟨_, hw4, ?_⟩
  simp? only [true_and]
  rcases List.eq_nil_or_concat wt with z | ⟨ws, x, z⟩
  · subst z
    refine ⟨fun y => (nomatch y), fun _ => ?_⟩
    refine ⟨_, hf4, ?_⟩
    simp? only [true_and]
    exact q fl I.len (fl_done hs ok I) _ (frx_del fr3 nf)
  · have z' : wt = ws ++ [x] := by simpa using z
    subst z'
    have ne : ((ws ++ [x]).map nI).isEmpty = false := by simp
    rw [ne]
    refine ⟨fun _ => ?_, fun y => by cases y⟩
    rw [List.length_append, List.length_singleton] at nn
    refine l3_lively_run hs ok wf I h fr3 nf nw hf4 hw4 nn fun fl' wt' h' I' fr' hf' hw' ms => ?_
    exact ⟨_, ms, fl', wt', I', fr', hf', hw', rfl, by rw [List.length_append, List.length_singleton] at ms; omega⟩
end
end K40
set_option maxHeartbeats 0
namespace K40
open PySem L2 DL
section
variable {A : Aut} {h : DH} {E : EKt}
def Clo1 (A : Aut) (fl : List Bool) (k : Nat) : Prop := ∀ s : Sta, A[k]? = some s → (∃ e ∈ s.es, fl[e.2]? = some true) → fl[k]? = some true
structure FlP (A : Aut) (fl : List Bool) : Prop where
  len : fl.length = A.length
  sound : ∀ i : Nat, fl[i]? = some true → Live A i
  ends : ∀ (i : Nat) (s : Sta), A[i]? = some s → s.ends = true → fl[i]? = some true
theorem ct_set {fl : List Bool} {i : Nat} (h : fl[i]? = some false) : fl.count true < (fl.set i true).count true := by
  induction fl generalizing i with
  | nil => simp at h
  | cons b fl ih =>
    cases i with
    | zero =>
      have : b = false := by simpa using h
      subst this
      simp
    | succ i =>
      have h' : fl[i]? = some false := by simpa using h
      have := ih h'
      rw [List.set_cons_succ, List.count_cons, List.count_cons]
      omega
theorem ct_all : ∀ {fl : List Bool}, fl.length ≤ fl.count true → ∀ i, i < fl.length → fl[i]? = some true
  | [], _, i, h => by simp at h
  | b :: fl, h, i, hi => by
    have c := List.count_le_length (a := true) (l := fl)
    cases b with
    | false => simp at h; omega
    | true =>
      cases i with
      | zero => rfl
      | succ i =>
        rw [List.getElem?_cons_succ]
        exact ct_all (by simp at h; omega) i (by simpa using hi)
theorem clo_done {fl : List Bool} (P : FlP A fl) (c : (∀ k, Clo1 A fl k) ∨ A.length ≤ fl.count true) (i : Nat) : fl[i]? = some true ↔ Live A i := by
  have c' : ∀ k, Clo1 A fl k := by
    rcases c with c | c
    · exact c
    · intro k s hs _
      exact ct_all (by rw [P.len]; exact c) k (by rw [P.len]; exact (List.getElem?_eq_some_iff.mp hs).1)
  refine ⟨P.sound i, fun l => ?_⟩
  induction l with
  | fin a e => exact P.ends _ _ a e
  | step a he _ ih => exact c' _ _ a ⟨_, he, ih⟩
theorem rng_inv {n i : Nat} {x : D} (h : (rng 0 n 1)[i]? = some x) : i < n ∧ x = .int (i : Int) := by
  have lt := (List.getElem?_eq_some_iff.mp h).1
  rw [rng_len] at lt
  rw [rng_get lt] at h
  refine ⟨lt, ?_⟩
  rw [← Option.some.inj h]
  simp
theorem st_get {i : Nat} {s : Sta} (hs : A[i]? = some s) : (A.map Sta.d)[i]? = some s.d := by rw [List.getElem?_map, hs]; rfl
theorem l2_alive_run (ok : AutOk A) {f : Addr} {fl : List Bool} {k : Nat} {s : Sta} (hs : A[k]? = some s) (lf : fl.length = A.length) (hf : h f = some (.lst (fl.map blD))) {Q : Fl Unit Unit → DH → Prop}
    (q : ∀ b : Bool, (b = true ↔ fl[k]? = some true ∨ ∃ e ∈ s.es, fl[e.2]? = some true) → Q (.nx ()) (h.upd f (.lst ((fl.set k b).map blD)))) : (l2_law_alive (.ref f) (.tup (A.map Sta.d)) (.int (k : Int)) ()).run h Q E := by
  have hsA := List.mem_of_getElem? hs
  have lt : k < fl.length := by rw [lf]; exact (List.getElem?_eq_some_iff.mp hs).1
  have gk : (fl.map blD)[k]? = some (blD fl[k]) := by rw [List.getElem?_map, List.getElem?_eq_getElem lt]; rfl
  have fin : ∀ b : Bool, (b = true ↔ fl[k]? = some true ∨ ∃ e ∈ s.es, fl[e.2]? = some true) → (∃ o, h f = some o ∧ (stO f (.int (k : Int)) (.bl b) o).run h (fun _ h' => Q (.nx ()) h') E) := fun b hb => by
    refine ⟨_, hf, k, ixN_n (by rw [List.length_map]; exact lt), ?_⟩
    rw [show (fl.map blD).set k (.bl b) = (fl.set k b).map blD by rw [List.map_set]; rfl]
    exact q b hb
  unfold l2_law_alive
  simp? only [true_and]
  refine ix_at hf gk ?_
  simp? only [blD]
  cases c : fl[k] with
  | true =>
    simp? only [true_and]
    exact fin true (iff_of_true rfl (.inl (by rw [List.getElem?_eq_getElem lt, c])))
  | false =>
    simp? only [true_and]
    refine ⟨_, st_get hs, ?_⟩
    simp? only [Sta.d]
    refine comp_map edgD (fun e => if (fl[e.2]?).getD false = true then some (D.int 1) else none) s.es (Nat.le_trans (ok.le s hsA) (by decide)) (fun _ _ => trivial) (fun e he h2 Q' fr2 q' => ?_) ?_
    · have lte : e.2 < fl.length := by rw [lf]; exact ok.lt s hsA e he
      unfold m2_law_alive
      simp? only [edgD]
      refine ⟨_, rfl, ?_⟩
      simp? only [true_and]
      refine ix_at (fr2.at_ hf) (x := blD fl[e.2]) (by rw [List.getElem?_map, List.getElem?_eq_getElem lte]; rfl) ?_
      simp? only [blD]
      rw [List.getElem?_eq_getElem lte, Option.getD_some] at q'
      cases c : fl[e.2] with
      | true => simp? only [true_and]; rw [c, if_pos rfl] at q'; exact q'
      | false => simp? only [true_and]; rw [c, if_neg (by simp)] at q'; exact q'
    · simp? only [true_and]
      refine fin _ ?_
      rw [List.getElem?_eq_getElem lt, c]
      simp
      have gd : ∀ b : Nat, ((fl[b]?).getD false = true) ↔ fl[b]? = some true := fun b => by
        cases fl[b]? with
        | none => simp
        | some c => simp
      simp only [gd]
theorem alive_run (ok : AutOk A) {Q : D → DH → Prop} (q : ∀ fl : List Bool, fl.length = A.length → (∀ i, fl[i]? = some true ↔ Live A i) → ∀ h', Fr h h' → Q (.cl (fl.map blD)) h') : (c_law_alive (autD A)).run h Q E := by
  refine fg ?_
  unfold cb_law_alive
  simp? only [autD]
  have le : A.length ≤ sizeLine := Nat.le_trans ok.len (by decide)
  refine live_comp Sta.d (fun s => some (blD s.ends)) A le (fun _ _ => trivial) (fun s _ h2 Q' _ q' => ?_) fun f hf => ?_
  · simp? only [Sta.d, m1_law_alive]
    refine ⟨_, rfl, ?_⟩
    simp? only [true_and]
    exact q'
  rw [show (A.filterMap fun s => some (blD s.ends)) = (A.map (·.ends)).map blD by rw [List.map_map]; exact congrFun (List.filterMap_eq_map (f := fun s : Sta => blD s.ends)) A] at *
  generalize hfl : A.map (·.ends) = fl0 at *
  have lf : fl0.length = A.length := by rw [← hfl, List.length_map]
  have P0 : FlP A fl0 := by
    refine ⟨lf, fun i hi => ?_, fun i s hs e => ?_⟩
    · rw [← hfl, List.getElem?_map] at hi
      obtain ⟨s, hs, e⟩ := Option.map_eq_some_iff.mp hi
      exact .fin hs e
    · rw [← hfl, List.getElem?_map, hs, Option.map_some, e]
  have bd : (-2 ^ 62 ≤ ((A.map Sta.d).length : Int) ∧ ((A.map Sta.d).length : Int) < 2 ^ 62) := by
    rw [List.length_map]
    have := ok.len
    omega
  refine ⟨bd, ?_⟩
  rw [List.length_map] at bd ⊢
  simp only [sRng]
  refine run_for (fun t _ h' => ∃ fl, FlP A fl ∧ Fr h h' ∧ h' f = some (.lst (fl.map blD)) ∧ ((∀ k, Clo1 A fl k) ∨ t ≤ fl.count true))
    ⟨fl0, P0, FrX.new hf, DH.upd_same, .inr (Nat.zero_le _)⟩ ?_ ?_
  · rintro t _ h2 x hx ⟨fl, P, fr2, hf2, cl⟩
    refine ⟨trivial, ?_⟩
    unfold l1_law_alive
    simp? only [true_and]
    rw [List.length_map]
    refine ⟨bd, ?_⟩
    simp only [sRng]
    refine run_for (fun k _ h' => ∃ fl', FlP A fl' ∧ Fr h h' ∧ h' f = some (.lst (fl'.map blD)) ∧ ((fl' = fl ∧ ∀ k', k' < k → Clo1 A fl k') ∨ ((¬ ∀ k, Clo1 A fl k) ∧ fl.count true < fl'.count true)))
      ⟨fl, P, fr2, hf2, .inl ⟨rfl, fun k' hk' => absurd hk' (Nat.not_lt_zero _)⟩⟩ ?_ ?_
    · rintro k _ h3 x hx ⟨fl', P', fr3, hf3, cs⟩
      obtain ⟨lk, rfl⟩ := rng_inv hx
      have hs := List.getElem?_eq_getElem lk
      refine ⟨trivial, ?_⟩
      simp? only [true_and]
      refine l2_alive_run ok hs P'.len hf3 fun b hb => ?_
      have lt' : k < fl'.length := by rw [P'.len]; exact lk
      cases g : fl'[k] with
      | true =>
        have gk : fl'[k]? = some true := by rw [List.getElem?_eq_getElem lt', g]
        have bt : b = true := hb.mpr (.inl gk)
        have e : fl'.set k b = fl' := by rw [bt, ← g]; exact List.set_getElem_self lt'
        rw [e]
        refine ⟨fl', P', FrX.put fr3 hf, DH.upd_same, ?_⟩
        rcases cs with ⟨rfl, cc⟩ | cc
        · refine .inl ⟨rfl, fun k' hk' => ?_⟩
          by_cases z : k' < k
          · exact cc k' z
          · have : k' = k := by omega
            rw [this]; exact fun _ _ _ => gk
        · exact .inr cc
      | false =>
        have gk : fl'[k]? = some false := by rw [List.getElem?_eq_getElem lt', g]
        cases b with
        | false =>
          have e : fl'.set k false = fl' := by rw [← g]; exact List.set_getElem_self lt'
          rw [e]
          refine ⟨fl', P', FrX.put fr3 hf, DH.upd_same, ?_⟩
          rcases cs with ⟨rfl, cc⟩ | cc
          · refine .inl ⟨rfl, fun k' hk' => ?_⟩
            by_cases z : k' < k
            · exact cc k' z
            · have : k' = k := by omega
              subst this
              intro s' hs' ex
              rw [hs] at hs'
              cases hs'
              have := hb.mpr (.inr ex)
              cases this
          · exact .inr cc
        | true =>
          rcases hb.mp rfl with z | ⟨e, he, le2⟩
          · rw [gk] at z; cases z
          · have lv : Live A k := .step hs he (P'.sound _ le2)
            refine ⟨fl'.set k true, ⟨by rw [List.length_set]; exact P'.len, fun i hi => ?_, fun i s hs e => set_keep (P'.ends i s hs e)⟩, FrX.put fr3 hf, DH.upd_same, .inr ?_⟩
            · rcases set_inv hi with rfl | z
              · exact lv
              · exact P'.sound i z
            · have cc := ct_set gk
              rcases cs with ⟨rfl, _⟩ | ⟨c1, c2⟩
              · refine ⟨fun al => ?_, cc⟩
                have := al k _ hs ⟨e, he, le2⟩
                rw [gk] at this; cases this
              · exact ⟨c1, Nat.lt_trans c2 cc⟩
    · rintro _ h3 ⟨fl', P', fr3, hf3, cs⟩
      refine ⟨trivial, ?_⟩
      simp? only [true_and]
      refine ⟨fl', P', fr3, hf3, ?_⟩
      rw [rng_len] at cs
      rcases cs with ⟨rfl, cc⟩ | ⟨c1, c2⟩
      · refine .inl fun k s hs => cc k (List.getElem?_eq_some_iff.mp hs).1 s hs
      · rcases cl with cl | cl
        · exact absurd cl c1
        · exact .inr (by omega)
  · rintro _ h3 ⟨fl, P, fr3, hf3, cl⟩
    rw [rng_len] at cl
    refine ⟨trivial, ?_⟩
    simp? only [true_and]
    refine ⟨_, hf3, ?_⟩
    simp? only [true_and]
    exact q fl P.len (clo_done P cl) _ (frx_del fr3 hf)
end
end K40
set_option maxHeartbeats 0
namespace K40
open PySem L2 DL
section
variable {α : Type} [DecidableEq α] {f : α → D} (inj : ∀ x y, nk (f x) = nk (f y) → x = y)
include inj
theorem findT_map {v : α → D} {S : List α} {x : α} : findT (S.map fun y => (f y, v y)) (f x) = if x ∈ S then some (v x) else none := by
  induction S with
  | nil => rfl
  | cons y S ih =>
    unfold findT at ih ⊢
    rw [List.map_cons, List.find?_cons]
    by_cases e : y = x
    · subst e; simp
    · have : ¬ nk (f y) = nk (f x) := fun z => e (inj _ _ z)
      simp only [decide_eq_false this]
      rw [ih]
      have ne : ¬ x = y := fun z => e z.symm
      simp [ne]
theorem putT_new {v : α → D} {S : List α} {x : α} {d : D} (h : x ∉ S) : putT (S.map fun y => (f y, v y)) (f x) d = (S.map fun y => (f y, v y)) ++ [(f x, d)] := by
  unfold putT
  rw [findT_map inj, if_neg h]
  simp
end
def idx {α : Type} [DecidableEq α] (S : List α) (x : α) : Nat := S.idxOf x
section
variable {α : Type} [DecidableEq α] {S T : List α} {x y : α}
theorem idx_old (h : x ∈ S) : idx (S ++ T) x = idx S x := by unfold idx; rw [List.idxOf_append, if_pos h]
theorem idx_new (h : x ∉ S) : idx (S ++ [x]) x = S.length := by unfold idx; rw [List.idxOf_append, if_neg h]; simp
theorem idx_le : idx S x ≤ S.length := List.idxOf_le_length
theorem idx_lt (h : x ∈ S) : idx S x < S.length := List.idxOf_lt_length_iff.mpr h
theorem idx_get (h : x ∈ S) : S[idx S x]? = some x := by
  rw [List.getElem?_eq_getElem (idx_lt h)]
  congr 1
  exact List.getElem_idxOf (idx_lt h)
theorem idx_inj (h : x ∈ S) (k : y ∈ S) (e : idx S x = idx S y) : x = y := by
  have a := idx_get h
  rw [e, idx_get k] at a
  exact (Option.some.inj a).symm
end
def numT {α : Type} [DecidableEq α] (f : α → D) (S : List α) : List (D × D) := S.map fun y => (f y, nI (idx S y))
section
variable {α : Type} [DecidableEq α] {f : α → D} (inj : ∀ x y, nk (f x) = nk (f y) → x = y)
include inj
theorem numT_find {S : List α} {x : α} : findT (numT f S) (f x) = if x ∈ S then some (nI (idx S x)) else none := findT_map inj
theorem numT_put {S : List α} {x : α} (h : x ∉ S) : putT (numT f S) (f x) (nI S.length) = numT f (S ++ [x]) := by
  unfold numT
  rw [putT_new inj h, List.map_append, List.map_cons, List.map_nil]
  congr 1
  · refine List.map_congr_left fun y hy => ?_
    rw [idx_old hy]
  · rw [idx_new h]
end
def intsN (cs : List Nat) : List Int := cs.map Int.ofNat
def cnt (cs : List Nat) : Nat := (dedI (intsN cs)).length
theorem cnt_key {f g : List Nat} (len : f.length = g.length) (r : ∀ i j, i < f.length → j < f.length → g.getD i 0 = g.getD j 0 → f.getD i 0 = f.getD j 0) : ∃ φ : Int → Int, ∀ i, i < f.length → φ ((g.getD i 0 : Nat) : Int) = ((f.getD i 0 : Nat) : Int) := by
  refine ⟨fun v => ((f.getD (g.idxOf v.toNat) 0 : Nat) : Int), fun i hi => ?_⟩
  have hg : i < g.length := by omega
  have m : g.getD i 0 ∈ g := by rw [List.getD_eq_getElem?_getD, List.getElem?_eq_getElem hg]; exact List.getElem_mem hg
  have lt := List.idxOf_lt_length_iff.mpr m
  have e : g.getD (g.idxOf (g.getD i 0)) 0 = g.getD i 0 := by
    rw [List.getD_eq_getElem?_getD, List.getElem?_eq_getElem lt, Option.getD_some, List.getElem_idxOf lt]
  show ((f.getD (g.idxOf ((g.getD i 0 : Nat) : Int).toNat) 0 : Nat) : Int) = _
  rw [Int.toNat_natCast, r _ i (by omega) hi e]
theorem mem_intsN {cs : List Nat} {x : Int} : x ∈ intsN cs ↔ ∃ i, i < cs.length ∧ x = ((cs.getD i 0 : Nat) : Int) := by
  unfold intsN
  rw [List.mem_map]
  constructor
  · rintro ⟨n, hn, rfl⟩
    obtain ⟨i, hi, rfl⟩ := List.getElem_of_mem hn
    exact ⟨i, hi, by rw [List.getD_eq_getElem?_getD, List.getElem?_eq_getElem hi]; rfl⟩
  · rintro ⟨i, hi, rfl⟩
    exact ⟨_, List.getElem_mem hi, by rw [List.getD_eq_getElem?_getD, List.getElem?_eq_getElem hi]; rfl⟩
theorem cnt_le {f g : List Nat} (len : f.length = g.length) (r : ∀ i j, i < f.length → j < f.length → g.getD i 0 = g.getD j 0 → f.getD i 0 = f.getD j 0) : cnt f ≤ cnt g := by
  obtain ⟨φ, hφ⟩ := cnt_key len r
  unfold cnt
  rw [← List.length_map (f := φ) (as := dedI (intsN g))]
  refine len_nd (ded_nodup _) fun x hx => ?_
  obtain ⟨i, hi, rfl⟩ := mem_intsN.mp (ded_mem.mp hx)
  exact List.mem_map.mpr ⟨_, ded_mem.mpr (mem_intsN.mpr ⟨i, by omega, rfl⟩), hφ i hi⟩
theorem cnt_eq {f g : List Nat} (len : f.length = g.length) (r : ∀ i j, i < f.length → j < f.length → g.getD i 0 = g.getD j 0 → f.getD i 0 = f.getD j 0) (e : cnt f = cnt g) {i j : Nat} (hi : i < f.length) (hj : j < f.length) (h : f.getD i 0 = f.getD j 0) : g.getD i 0 = g.getD j 0 := by
  obtain ⟨φ, hφ⟩ := cnt_key len r
  by_cases c : g.getD i 0 = g.getD j 0
  · exact c
  · exfalso
    have mj : ((g.getD j 0 : Nat) : Int) ∈ dedI (intsN g) := ded_mem.mpr (mem_intsN.mpr ⟨j, by omega, rfl⟩)
    have le : cnt f ≤ ((dedI (intsN g)).erase ((g.getD j 0 : Nat) : Int)).length := by
      rw [← List.length_map (f := φ)]
      refine len_nd (ded_nodup _) fun x hx => ?_
      obtain ⟨k, hk, rfl⟩ := mem_intsN.mp (ded_mem.mp hx)
      by_cases d : g.getD k 0 = g.getD j 0
      · refine List.mem_map.mpr ⟨((g.getD i 0 : Nat) : Int), ?_, ?_⟩
        · exact (List.mem_erase_of_ne (by omega)).mpr (ded_mem.mpr (mem_intsN.mpr ⟨i, by omega, rfl⟩))
        · rw [hφ i hi, h, r k j hk hj d]
      · exact List.mem_map.mpr ⟨_, (List.mem_erase_of_ne (by omega)).mpr (ded_mem.mpr (mem_intsN.mpr ⟨k, by omega, rfl⟩)), hφ k hk⟩
    rw [List.length_erase_of_mem mj] at le
    have := List.length_pos_of_mem mj
    unfold cnt at e le
    omega
section
variable {A : Aut}
noncomputable def toldC (A : Aut) (cs : List Nat) (es : List (Str × Nat)) : List (Str × Nat) := (lv A es).map fun e => (e.1, cs.getD e.2 0)
noncomputable def keyC (A : Aut) (cs : List Nat) (i : Nat) : Nat × List (Str × Nat) := (cs.getD i 0, toldC A cs (((A[i]?).map (·.es)).getD []))
theorem told_edr {R : Nat → Nat → Prop} {f : Nat → Nat} : ∀ {a b : List (Str × Nat)}, (∀ e ∈ a, ∀ e' ∈ b, f e.2 = f e'.2 → R e.2 e'.2) → (a.map fun e => (e.1, f e.2)) = (b.map fun e => (e.1, f e.2)) → EdR R a b
  | [], [], _, _ => .nil
  | [], _ :: _, _, h => by cases h
  | _ :: _, [], _, h => by cases h
  | e :: a, e' :: b, r, h => by
    rw [List.map_cons, List.map_cons] at h
    injection h with h1 h2
    injection h1 with h1 h3
    obtain ⟨x, i⟩ := e
    obtain ⟨y, j⟩ := e'
    have h1 : x = y := h1
    subst h1
    exact .cons (r _ List.mem_cons_self _ List.mem_cons_self h3) (told_edr (fun e he e' he' => r e (List.mem_cons_of_mem _ he) e' (List.mem_cons_of_mem _ he')) h2)
theorem edr_told {R : Nat → Nat → Prop} {f : Nat → Nat} {a b : List (Str × Nat)} (h : EdR R a b) (r : ∀ i j, R i j → f i = f j) : (a.map fun e => (e.1, f e.2)) = (b.map fun e => (e.1, f e.2)) := by
  induction h with
  | nil => rfl
  | cons x _ ih => rw [List.map_cons, List.map_cons, ih, r _ _ x]
structure ClsI (A : Aut) (cs : List Nat) : Prop where
  len : cs.length = A.length
  lt : ∀ i, cs.getD i 0 ≤ 1000
  coarse : ∀ i j, Bis A A i j → cs.getD i 0 = cs.getD j 0
  ends : ∀ (i j : Nat) (s t : Sta), A[i]? = some s → A[j]? = some t → cs.getD i 0 = cs.getD j 0 → s.ends = t.ends
structure NextC (A : Aut) (cs cs' : List Nat) : Prop where
  len : cs'.length = A.length
  lt : ∀ i, cs'.getD i 0 ≤ 1000
  iff : ∀ i j, i < A.length → j < A.length → (cs'.getD i 0 = cs'.getD j 0 ↔ keyC A cs i = keyC A cs j)
theorem key_at {cs : List Nat} {i : Nat} {s : Sta} (h : A[i]? = some s) : keyC A cs i = (cs.getD i 0, toldC A cs s.es) := by
  unfold keyC; rw [h]; rfl
theorem ClsI.next {cs cs' : List Nat} (I : ClsI A cs) (N : NextC A cs cs') : ClsI A cs' := by
  refine ⟨N.len, N.lt, fun i j b => ?_, fun i j s t hs ht e => ?_⟩
  · obtain ⟨s, t, hs, ht, _, ed⟩ := bis_at b
    refine (N.iff i j (List.getElem?_eq_some_iff.mp hs).1 (List.getElem?_eq_some_iff.mp ht).1).mpr ?_
    rw [key_at hs, key_at ht, I.coarse i j b]
    unfold toldC
    rw [edr_told ed I.coarse]
  · have := (N.iff i j (List.getElem?_eq_some_iff.mp hs).1 (List.getElem?_eq_some_iff.mp ht).1).mp e
    rw [key_at hs, key_at ht] at this
    exact I.ends i j s t hs ht (congrArg Prod.fst this)
theorem NextC.ref {cs cs' : List Nat} (N : NextC A cs cs') (I : ClsI A cs) : ∀ i j, i < cs.length → j < cs.length → cs'.getD i 0 = cs'.getD j 0 → cs.getD i 0 = cs.getD j 0 := fun i j hi hj e => congrArg Prod.fst ((N.iff i j (by rw [← I.len]; exact hi) (by rw [← I.len]; exact hj)).mp e)
theorem NextC.done {cs cs' : List Nat} (N : NextC A cs cs') (I : ClsI A cs) (ok : AutOk A) (e : cnt cs = cnt cs') {i j : Nat} (hi : i < A.length) (hj : j < A.length) : cs'.getD i 0 = cs'.getD j 0 ↔ Bis A A i j := by
  refine ⟨fun h => ?_, (I.next N).coarse i j⟩
  have ln : cs.length = cs'.length := by rw [I.len, N.len]
  refine ⟨fun i j => i < A.length ∧ j < A.length ∧ cs.getD i 0 = cs.getD j 0, ⟨fun i j r => ?_⟩, hi, hj, N.ref I i j (by rw [I.len]; exact hi) (by rw [I.len]; exact hj) h⟩
  obtain ⟨hi, hj, r⟩ := r
  have hs := List.getElem?_eq_getElem hi
  have ht := List.getElem?_eq_getElem hj
  refine ⟨_, _, hs, ht, I.ends i j _ _ hs ht r, ?_⟩
  have c := cnt_eq ln (N.ref I) e (by rw [I.len]; exact hi) (by rw [I.len]; exact hj) r
  have k := (N.iff i j hi hj).mp c
  rw [key_at hs, key_at ht] at k
  have k2 : toldC A cs A[i].es = toldC A cs A[j].es := congrArg Prod.snd k
  unfold toldC at k2
  refine told_edr (f := fun n => cs.getD n 0) (fun e he e' he' x => ⟨ok.lt _ (List.getElem_mem hi) e (mem_lv.mp he).1, ok.lt _ (List.getElem_mem hj) e' (mem_lv.mp he').1, x⟩) k2
end
end K40
set_option maxHeartbeats 0
namespace K40
open PySem L2 DL
abbrev KeyT := Nat × List (Str × Nat)
def ktD (k : KeyT) : D := .tup [nI k.1, .tup (k.2.map edgD)]
theorem edg_inj : ∀ (a b : List (Str × Nat)), nks (a.map edgD) = nks (b.map edgD) → a = b
  | [], [], _ => rfl
  | [], _ :: _, h => by simp [nks] at h
  | _ :: _, [], h => by simp [nks] at h
  | e :: a, e' :: b, h => by
    simp only [List.map_cons, nks, edgD, nk, List.cons.injEq, NestedKey.tup.injEq, NestedKey.text.injEq, NestedKey.num.injEq, and_true] at h
    obtain ⟨⟨h1, h2⟩, h3⟩ := h
    rw [edg_inj a b h3]
    congr 1
    exact Prod.ext h1 (by omega)
theorem kt_inj (x y : KeyT) (h : nk (ktD x) = nk (ktD y)) : x = y := by
  simp only [ktD, nI, nk, nks, NestedKey.tup.injEq, List.cons.injEq, NestedKey.num.injEq, and_true] at h
  obtain ⟨h1, h2⟩ := h
  exact Prod.ext (by omega) (edg_inj _ _ h2)
theorem kt_ok (k : KeyT) : keyOk (ktD k) = true := by
  have : ∀ l : List (Str × Nat), keysOk (l.map edgD) = true := fun l => by
    induction l with
    | nil => rfl
    | cons e l ih => rw [List.map_cons]; simp [keysOk, edgD, keyOk, ih]
  simp [ktD, nI, keyOk, keysOk, this]
theorem kt_depth (k : KeyT) : (nk (ktD k)).depth ≤ 8 := by
  have : ∀ l : List (Str × Nat), NestedKey.depthAll (nks (l.map edgD)) ≤ 2 := fun l => by
    induction l with
    | nil => simp [nks, NestedKey.depthAll]
    | cons e l ih =>
      rw [List.map_cons]
      simp [nks, edgD, nk, NestedKey.depthAll, NestedKey.depth]
      omega
  have := this k.2
  simp [ktD, nI, nk, nks, NestedKey.depthAll, NestedKey.depth]
  omega
theorem lset_at {p : Addr} {cs : List Nat} {h : DH} {E : EKt} (e : h p = some (.lst (cs.map nI))) (hl : cs.length ≤ 1000) {Q : D → DH → Prop} (q : Q (nI (cnt cs)) h) : (bLenSetI (.ref p)).run h Q E := by
  refine ⟨intsN cs, ?_, by unfold intsN; rw [List.length_map]; exact hl, q⟩
  show h p = some (.lst ((intsN cs).map D.int))
  rw [e]; unfold intsN; rw [List.map_map]; rfl
theorem lset_cl {cs : List Nat} {h : DH} {E : EKt} (hl : cs.length ≤ 1000) {Q : D → DH → Prop} (q : Q (nI (cnt cs)) h) : (bLenSetI (.cl (cs.map nI))).run h Q E := by
  refine ⟨intsN cs, ?_, by unfold intsN; rw [List.length_map]; exact hl, q⟩
  show (intsN cs).map D.int = cs.map nI
  unfold intsN; rw [List.map_map]; rfl
theorem filtM {α β : Type} {p : α → Bool} {f : α → β} : ∀ l : List α, (l.filterMap fun e => if p e = true then some (f e) else none) = (l.filter p).map f
  | [] => rfl
  | e :: l => by
    rw [List.filterMap_cons]
    cases c : p e with
    | true => rw [List.filter_cons_of_pos c, if_pos rfl, List.map_cons, filtM l]
    | false =>
      rw [List.filter_cons_of_neg (by simp [c]), if_neg (by simp)]
      exact filtM l
def LsN (h : DH) (d : D) (cs : List Nat) : Prop := d = .cl (cs.map nI) ∨ ∃ p, d = .ref p ∧ h p = some (.lst (cs.map nI))
section
variable {A : Aut} {h : DH} {E : EKt} {d : D} {cs : List Nat}
theorem LsN.fr {h' : DH} (L : LsN h d cs) (fr : Fr h h') : LsN h' d cs := by
  rcases L with z | ⟨p, z, e⟩
  · exact .inl z
  · exact .inr ⟨p, z, fr.at_ e⟩
theorem LsN.cnt (L : LsN h d cs) (hl : cs.length ≤ 1000) {Q : D → DH → Prop} (q : Q (nI (cnt cs)) h) : (bLenSetI d).run h Q E := by
  rcases L with rfl | ⟨p, rfl, e⟩
  · exact lset_cl hl q
  · exact lset_at e hl q
theorem LsN.ix (L : LsN h d cs) {i : Nat} (hi : i < cs.length) {Q : D → DH → Prop} (q : Q (nI (cs.getD i 0)) h) : (opIx2 d (.int (i : Int))).run h Q E := by
  have g : (cs.map nI)[i]? = some (nI (cs.getD i 0)) := by rw [List.getElem?_map, List.getD_eq_getElem?_getD, List.getElem?_eq_getElem hi]; rfl
  rcases L with rfl | ⟨p, rfl, e⟩
  · exact ixc_at g q
  · exact ix_at e g q
theorem cls_turn (ok : AutOk A) {fl : List Bool} (lf : fl.length = A.length) (hl : ∀ i, fl[i]? = some true ↔ Live A i) (I : ClsI A cs) (L : LsN h d cs) {c2 : D} {Q : Fl (D × D) (D × D) → DH → Prop}
    (q : ∀ cs' p h', NextC A cs cs' → Fr h h' → h p = none → h' p = some (.lst (cs'.map nI)) → Q (.nx (.ref p, nI (cnt cs))) h') : (l1_classes_of (autD A) (.cl (fl.map blD)) (d, c2)).run h Q E := by
  have l100 : cs.length ≤ 1000 := by rw [I.len]; exact Nat.le_trans ok.len (by decide)
  unfold l1_classes_of
  simp? only [true_and]
  refine L.cnt l100 ?_
  refine .inr fun nb hnb => ?_
  intro fd hfd
  have nf : nb ≠ fd := new_ne hfd DH.upd_same
  have hfd0 : h fd = none := by rw [DH.upd_ne nf.symm] at hfd; exact hfd
  simp? only [iEnum3, autD]
  refine run_for (fun i _ h' => ∃ S : List KeyT, S.length ≤ i ∧ (∀ j, j < i → keyC A cs j ∈ S) ∧ h' nb = some (.dT (numT ktD S)) ∧ h' fd = some (.lst ((List.range i).map fun (j : Nat) => nI (idx S (keyC A cs j)))) ∧ Fr h h')
    ⟨[], Nat.le_refl _, fun j hj => absurd hj (Nat.not_lt_zero _), by rw [DH.upd_ne nf, DH.upd_same]; rfl, DH.upd_same, FrX.put (FrX.new hnb) hfd0⟩ ?_ ?_
  · rintro i _ h2 x hx ⟨S, sl, sm, hn2, hf2, fr2⟩
    rw [autN] at hx
    obtain ⟨s, hs, rfl⟩ := Option.map_eq_some_iff.mp hx
    have hsA := List.mem_of_getElem? hs
    have li := (List.getElem?_eq_some_iff.mp hs).1
    have la := ok.len
    have L2 := L.fr fr2
    refine ⟨trivial, ⟨_, rfl, ?_⟩⟩
    unfold l2_classes_of
    simp? only [true_and]
    refine comp_map edgD (fun e => if (fl[e.2]?).getD false = true then some (edgD (e.1, cs.getD e.2 0)) else none) s.es (Nat.le_trans (ok.le s hsA) (by decide)) (fun _ _ => trivial) (fun e he h3 Q' fr3 q' => ?_) ?_
    · have lte : e.2 < A.length := ok.lt s hsA e he
      have gfl : (fl.map blD)[e.2]? = some (blD ((fl[e.2]?).getD false)) := by rw [List.getElem?_map, List.getElem?_eq_getElem (by omega)]; rfl
      unfold m2_classes_of
      simp? only [edgD]
      refine ⟨_, rfl, ?_⟩
      simp? only [true_and]
      refine ⟨_, gfl, ?_⟩
      simp? only [blD]
      cases c : (fl[e.2]?).getD false with
      | true =>
        simp? only [true_and]
        refine (L2.fr fr3).ix (by rw [I.len]; exact lte) ?_
        rw [c, if_pos rfl] at q'
        exact q'
      | false => simp? only [true_and]; rw [c, if_neg (by simp)] at q'; exact q'
    · have te : (s.es.filterMap fun e => if (fl[e.2]?).getD false = true then some (edgD (e.1, cs.getD e.2 0)) else none) = (toldC A cs s.es).map edgD := by
        unfold toldC
        rw [← lv_filter (p := fun e => (fl[e.2]?).getD false) (fun e he => by
          rw [← hl]
          have gd : ∀ b : Nat, ((fl[b]?).getD false = true) ↔ fl[b]? = some true := fun b => by
            cases fl[b]? with
            | none => simp
            | some c => simp
          exact gd _), List.map_map]
        exact filtM s.es
      simp? only [true_and]
      rw [te]
      refine ⟨⟨_, hf2⟩, .inr ⟨_, _, rfl, hn2⟩, ?_⟩
      refine L2.ix (by rw [I.len]; exact li) ?_
      refine ⟨_, hn2, ?_⟩
      have kk : keyC A cs i = (cs.getD i 0, toldC A cs s.es) := key_at hs
      have fnd1 : keyC A cs i ∈ S → findT (numT ktD S) (D.tup [nI (cs.getD i 0), D.tup ((toldC A cs s.es).map edgD)]) = some (nI (idx S (keyC A cs i))) := fun m => by
        rw [kk] at m ⊢
        exact (numT_find kt_inj (x := (cs.getD i 0, toldC A cs s.es))).trans (if_pos m)
      have fnd2 : keyC A cs i ∉ S → findT (numT ktD S) (D.tup [nI (cs.getD i 0), D.tup ((toldC A cs s.es).map edgD)]) = none := fun m => by
        rw [kk] at m
        exact (numT_find kt_inj (x := (cs.getD i 0, toldC A cs s.es))).trans (if_neg m)
      have nl2 : (numT ktD S).length = S.length := by unfold numT; rw [List.length_map]
      have ap : ∀ S' : List KeyT, S'.length ≤ i + 1 → (∀ k ∈ S, k ∈ S' ∧ idx S' k = idx S k) → keyC A cs i ∈ S' → ∀ h3 : DH, h3 nb = some (.dT (numT ktD S')) → h3 fd = h2 fd → Fr h h3 →
          ∃ xs, h3 fd = some (.lst xs) ∧ xs.length < sizeLine ∧ ∃ S : List KeyT, S.length ≤ i + 1 ∧ (∀ j, j < i + 1 → keyC A cs j ∈ S) ∧ h3.upd fd (.lst (xs ++ [nI (idx S' (keyC A cs i))])) nb = some (.dT (numT ktD S)) ∧ h3.upd fd (.lst (xs ++ [nI (idx S' (keyC A cs i))])) fd = some (.lst ((List.range (i + 1)).map fun (j : Nat) => nI (idx S (keyC A cs j)))) ∧ Fr h (h3.upd fd (.lst (xs ++ [nI (idx S' (keyC A cs i))]))) := by
        intro S' l' sub mem h3 e1 e2 fr3
        refine ⟨_, by rw [e2]; exact hf2, by rw [List.length_map, List.length_range]; exact Nat.lt_of_lt_of_le (show i < 10000 by omega) (sz_le (Nat.le_refl _)), S', l', fun j hj => ?_, by rw [DH.upd_ne nf]; exact e1, ?_, FrX.put fr3 hfd0⟩
        · by_cases c : j < i
          · exact (sub _ (sm j c)).1
          · have : j = i := by omega
            rw [this]; exact mem
        · rw [DH.upd_same, List.range_succ, List.map_append]
          congr 3
          refine List.map_congr_left fun j hj => ?_
          rw [(sub _ (sm j (List.mem_range.mp hj))).2]
      refine .inr ⟨_, hn2, rfl, kt_ok (cs.getD i 0, toldC A cs s.es), kt_depth (cs.getD i 0, toldC A cs s.es), by rw [nl2]; exact Nat.lt_of_lt_of_le (show S.length < 10000 by omega) (sz_le (Nat.le_refl _)), fun d hd => ?_, fun hd => ?_⟩
      · by_cases c : keyC A cs i ∈ S
        · rw [fnd1 c] at hd
          cases hd
          exact ap S (by omega) (fun k hk => ⟨hk, rfl⟩) c h2 hn2 rfl fr2
        · rw [fnd2 c] at hd; cases hd
      · by_cases c : keyC A cs i ∈ S
        · rw [fnd1 c] at hd; cases hd
        · rw [nl2]
          have pt : putT (numT ktD S) (D.tup [nI (cs.getD i 0), D.tup ((toldC A cs s.es).map edgD)]) (nI S.length) = numT ktD (S ++ [keyC A cs i]) := by
            rw [kk] at c ⊢
            exact numT_put kt_inj (x := (cs.getD i 0, toldC A cs s.es)) c
          have ix : idx (S ++ [keyC A cs i]) (keyC A cs i) = S.length := idx_new c
          have r := ap (S ++ [keyC A cs i]) (by rw [List.length_append, List.length_singleton]; omega) (fun k hk => ⟨List.mem_append_left _ hk, idx_old hk⟩) (by simp) (h2.upd nb (.dT (numT ktD (S ++ [keyC A cs i])))) DH.upd_same (DH.upd_ne nf.symm) (FrX.put fr2 hnb)
          rw [ix, ← pt] at r
          exact r
  · rintro _ h2 ⟨S, sl, sm, hn2, hf2, fr2⟩
    refine ⟨trivial, ?_⟩
    simp? only [true_and]
    rw [numbered_len, List.length_map] at *
    have gg : ∀ i, i < A.length → ((List.range A.length).map fun (j : Nat) => idx S (keyC A cs j)).getD i 0 = idx S (keyC A cs i) := fun i hi => by
      rw [List.getD_eq_getElem?_getD, List.getElem?_map, List.getElem?_range hi]; rfl
    refine q ((List.range A.length).map fun (j : Nat) => idx S (keyC A cs j)) fd h2 ⟨by simp, fun i => ?_, fun i j hi hj => ?_⟩ fr2 hfd0 (by rw [hf2, List.map_map]; rfl)
    · have := ok.len
      by_cases c : i < A.length
      · rw [gg i c]
        have := idx_le (S := S) (x := keyC A cs i)
        omega
      · rw [List.getD_eq_getElem?_getD, List.getElem?_eq_none (by simpa using c)]
        simp
    · rw [gg i hi, gg j hj]
      constructor
      · intro e
        exact idx_inj (sm i hi) (sm j hj) e
      · intro e; rw [e]
end
end K40
set_option maxHeartbeats 0
namespace K40
open PySem L2 DL
section
variable {A : Aut} {h : DH} {E : EKt}
def cls0 (A : Aut) : List Nat := A.map fun s => if s.ends = true then 1 else 0
theorem cls0_at {i : Nat} {s : Sta} (h : A[i]? = some s) : (cls0 A).getD i 0 = if s.ends = true then 1 else 0 := by
  unfold cls0
  rw [List.getD_eq_getElem?_getD, List.getElem?_map, h]; rfl
theorem cls0_I (A : Aut) : ClsI A (cls0 A) := by
  refine ⟨by unfold cls0; rw [List.length_map], fun i => ?_, fun i j b => ?_, fun i j s t hs ht e => ?_⟩
  · cases e : A[i]? with
    | none =>
      unfold cls0
      rw [List.getD_eq_getElem?_getD, List.getElem?_map, e]; simp
    | some s => rw [cls0_at e]; split <;> omega
  · obtain ⟨s, t, hs, ht, e, _⟩ := bis_at b
    rw [cls0_at hs, cls0_at ht, e]
  · rw [cls0_at hs, cls0_at ht] at e
    cases a : s.ends <;> cases b : t.ends <;> rw [a, b] at e <;> simp at e ⊢
theorem eq4_n {m k : Nat} {Q : Bool → DH → Prop} (q : Q (decide (m = k)) h) : (opEq4 (nI m) (nI k)).run h Q E := by
  unfold nI
  by_cases e : m = k
  · rw [decide_eq_true e] at q
    rw [DL.fw_eq4i, DL.ev_eq_i_t (by omega)]
    exact q
  · rw [decide_eq_false e] at q
    rw [DL.fw_eq4i, DL.ev_eq_i_f (by omega)]
    exact q
theorem cnt_pos {cs : List Nat} (h : cs ≠ []) : 0 < cnt cs := by
  unfold cnt
  obtain ⟨x, hx⟩ := List.exists_mem_of_ne_nil cs h
  refine List.length_pos_of_mem (a := (x : Int)) (ded_mem.mpr ?_)
  unfold intsN
  exact List.mem_map.mpr ⟨x, hx, rfl⟩
theorem cnt_len (cs : List Nat) : cnt cs ≤ cs.length := by
  unfold cnt
  have := ded_len (intsN cs)
  unfold intsN at this ⊢
  rw [List.length_map] at this
  exact this
theorem classes_run (ok : AutOk A) (ne : A ≠ []) {fl : List Bool} (lf : fl.length = A.length) (hl : ∀ i, fl[i]? = some true ↔ Live A i) {Q : D → DH → Prop}
    (q : ∀ (cs : List Nat) (p : Addr) (h' : DH), cs.length = A.length → (∀ i j, i < A.length → j < A.length → (cs.getD i 0 = cs.getD j 0 ↔ Bis A A i j)) → Fr h h' → h p = none → h' p = some (.lst (cs.map nI)) → Q (.ref p) h') : (c_classes_of (autD A) (.cl (fl.map blD))).run h Q E := by
  refine fg ?_
  unfold cb_classes_of
  have la := ok.len
  have c0 : (cls0 A).length = A.length := (cls0_I A).len
  have na : cls0 A ≠ [] := fun e => by
    rw [e] at c0
    exact ne (List.eq_nil_of_length_eq_zero c0.symm)
  simp? only [autD]
  refine comp_map Sta.d (fun s => some (nI (if s.ends = true then 1 else 0))) A (Nat.le_trans ok.len (by decide)) (fun _ _ => trivial) (fun s _ h2 Q' _ q' => ?_) ?_
  · simp? only [Sta.d, m1_classes_of]
    refine ⟨_, rfl, ?_⟩
    simp? only [true_and]
    cases c : s.ends with
    | true => simp? only [c] at q' ⊢; exact q'
    | false => simp? only [c] at q' ⊢; exact q'
  rw [show (A.filterMap fun s => some (nI (if s.ends = true then 1 else 0))) = (cls0 A).map nI by unfold cls0; rw [List.map_map]; exact congrFun (List.filterMap_eq_map (f := fun s : Sta => nI (if s.ends = true then 1 else 0))) A]
  refine run_while (L := D × D) (fun n c h' => ∃ cs d m, c = (d, nI m) ∧ ClsI A cs ∧ LsN h' d cs ∧ Fr h h' ∧ m ≤ cnt cs ∧ n = 200 - m ∧ (m = 0 ∨ ((∃ p, d = .ref p ∧ h p = none) ∧ ∃ cs0, ClsI A cs0 ∧ NextC A cs0 cs ∧ m = cnt cs0))) (n := 200)
    ⟨cls0 A, _, 0, rfl, cls0_I A, .inl rfl, FrX.refl, Nat.zero_le _, rfl, .inl rfl⟩ ?_
  rintro n _ h2 ⟨cs, d, m, rfl, I, L, fr2, ml, rfl, st⟩
  have l1 : cs.length ≤ 1000 := by rw [I.len]; omega
  have cl := cnt_len cs
  rw [I.len] at cl
  simp? only [true_and]
  refine L.cnt l1 ?_
  refine eq4_n ?_
  by_cases e : m = cnt cs
  · rw [decide_eq_true e]
    refine ⟨fun z => (by cases z), fun _ => ?_⟩
    rcases st with z | ⟨⟨p, rfl, hp⟩, cs0, I0, N, e0⟩
    · have : cs ≠ [] := fun z2 => by
        have := I.len
        rw [z2] at this
        exact ne (List.eq_nil_of_length_eq_zero this.symm)
      have := cnt_pos this
      omega
    · refine q cs p h2 I.len (fun i j hi hj => N.done I0 ok (by rw [← e0]; exact e) hi hj) fr2 hp ?_
      rcases L with z | ⟨p', z, L⟩
      · cases z
      · cases z; exact L
  · rw [decide_eq_false e]
    refine ⟨fun _ => ?_, fun z => (by cases z)⟩
    refine cls_turn ok lf hl I L fun cs' p h' N fr' hp hp' => ?_
    have N' := N.ref I
    refine ⟨_, ?_, cs', _, _, rfl, I.next N, .inr ⟨p, rfl, hp'⟩, fr2.trans fr', cnt_le (by rw [I.len, N.len]) N', rfl, .inr ⟨⟨p, rfl, fr_none fr2 hp⟩, cs, I, N, rfl⟩⟩
    omega
end
end K40
set_option maxHeartbeats 0
namespace K40
open PySem L2 DL
theorem ap1_e {f : D → W D} {a : D} : ap1 f [a] = f a := rfl
theorem ap2_e {f : D → D → W D} {a b : D} : ap2 f [a, b] = f a b := rfl
theorem ap3_e {f : D → D → D → W D} {a b c : D} : ap3 f [a, b, c] = f a b c := rfl
theorem ap4_e {f : D → D → D → D → W D} {a b c d : D} : ap4 f [a, b, c, d] = f a b c d := rfl
def numK (K : List Nat) : List (Key × D) := K.map fun (k : Nat) => (Sum.inl (k : Int), nI (idx K k))
theorem numK_find {K : List Nat} {k : Nat} {v : Nat → D} : findK (K.map fun (k : Nat) => ((Sum.inl (k : Int) : Key), v k)) (.inl (k : Int)) = if k ∈ K then some (v k) else none := by
  induction K with
  | nil => rfl
  | cons y S ih =>
    unfold findK at ih ⊢
    rw [List.map_cons, List.find?_cons]
    by_cases e : y = k
    · subst e; simp
    · have : ¬ ((Sum.inl (y : Int) : Key) = .inl (k : Int)) := fun z => e (by injection z with z; omega)
      simp only [decide_eq_false this]
      rw [ih]
      have ne : ¬ k = y := fun z => e z.symm
      simp [ne]
theorem numK_put {K : List Nat} {k : Nat} (h : k ∉ K) : putD (numK K) (.inl (k : Int)) (nI K.length) = numK (K ++ [k]) := by
  unfold putD
  rw [if_neg]
  · unfold numK
    rw [List.map_append, List.map_cons, List.map_nil]
    congr 1
    · refine List.map_congr_left fun y hy => ?_
      rw [idx_old hy]
    · rw [idx_new h]
  · intro z
    obtain ⟨p, hp, e⟩ := List.any_eq_true.mp z
    obtain ⟨y, hy, rfl⟩ := List.mem_map.mp hp
    have e := of_decide_eq_true e
    injection e with e
    have : y = k := by omega
    rw [this] at hy; exact h hy
section
variable {A L : Aut} {h : DH} {E : EKt} {C : Nat → Nat} {ord : List Nat}
theorem edr_snoc {R : Nat → Nat → Prop} {a b : List (Str × Nat)} {f : Str} {i j : Nat} (h : EdR R a b) (r : R i j) : EdR R (a ++ [(f, i)]) (b ++ [(f, j)]) := by
  induction h with
  | nil => exact .cons r .nil
  | cons x _ ih => exact .cons x ih
theorem lv_snoc (A : Aut) (es : List (Str × Nat)) (e : Str × Nat) : lv A (es ++ [e]) = lv A es ++ lv A [e] := by unfold lv; exact List.filter_append ..
theorem lv_one {e : Str × Nat} (l : Live A e.2) : lv A [e] = [e] := lv_all fun x hx => by rw [List.mem_singleton.mp hx]; exact l
theorem lv_not {e : Str × Nat} (l : ¬ Live A e.2) : lv A [e] = [] := by
  unfold lv
  rw [List.filter_eq_nil_iff]
  intro x hx
  rw [List.mem_singleton.mp hx]
  simpa using l
structure OrdI (A : Aut) (C : Nat → Nat) (ord : List Nat) : Prop where
  z : ord[0]? = some 0
  live : ∀ i ∈ ord, Live A i
  nd : (ord.map C).Nodup
abbrev Tg (A : Aut) (ord : List Nat) (k j : Nat) : Prop := ∃ i', ord[k]? = some i' ∧ Bis A A i' j
theorem tg_mono {X : List Nat} {k j : Nat} (h : Tg A ord k j) : Tg A (ord ++ X) k j := by
  obtain ⟨i', hi, b⟩ := h
  exact ⟨i', by rw [List.getElem?_append_left (List.getElem?_eq_some_iff.mp hi).1]; exact hi, b⟩
structure LstR (A : Aut) (C : Nat → Nat) (ord : List Nat) (L : Aut) : Prop where
  o : OrdI A C ord
  le : L.length ≤ ord.length
  row : ∀ t, t < L.length → ∀ (i : Nat) (s : Sta), ord[t]? = some i → A[i]? = some s → ∃ s', L[t]? = some s' ∧ s'.ends = s.ends ∧ EdR (Tg A ord) s'.es (lv A s.es)
  go : ∀ t, t < L.length → ∃ m, seqM 1 ((L.take t).flatMap tgts) = some m ∧ t < m
  fin : seqM 1 (L.flatMap tgts) = some ord.length
theorem OrdI.nodup (O : OrdI A C ord) : ord.Nodup := by
  have := O.nd
  exact List.Pairwise.of_map C (fun a b z e => z (by rw [e])) this
theorem OrdI.len (O : OrdI A C ord) : ord.length ≤ A.length := by
  have := len_nd O.nodup fun i hi => List.mem_range.mpr (O.live i hi).lt
  rw [List.length_range] at this
  exact this
theorem OrdI.add (O : OrdI A C ord) {x : Nat} (l : Live A x) (n : C x ∉ ord.map C) : OrdI A C (ord ++ [x]) := by
  refine ⟨?_, fun i hi => ?_, ?_⟩
  · rw [List.getElem?_append_left (List.getElem?_eq_some_iff.mp O.z).1]; exact O.z
  · rcases List.mem_append.mp hi with z | z
    · exact O.live i z
    · rw [List.mem_singleton.mp z]; exact l
  · rw [List.map_append, List.map_cons, List.map_nil, List.nodup_append]
    refine ⟨O.nd, by simp, fun a ha b hb e => n ?_⟩
    rw [List.mem_singleton.mp hb] at e
    rw [← e]; exact ha
structure EdI (A : Aut) (C : Nat → Nat) (ord0 ord : List Nat) (L : Aut) (es ps : List (Str × Nat)) : Prop where
  o : OrdI A C ord
  ext : ∃ X, ord = ord0 ++ X
  er : EdR (Tg A ord) ps (lv A es)
  sq : seqM 1 (L.flatMap tgts ++ ps.map (·.2)) = some ord.length
theorem EdR.len {R : Nat → Nat → Prop} {a b : List (Str × Nat)} (h : EdR R a b) : a.length = b.length := by
  have := congrArg List.length h.fields
  rw [List.length_map, List.length_map] at this
  exact this
theorem ixk_at {p : Addr} {K : List Nat} {k : Nat} (e : h p = some (.dK (numK K))) (m : k ∈ K) {Q : D → DH → Prop} (q : Q (nI (idx K k)) h) : (opIx2 (.ref p) (.int (k : Int))).run h Q E := by
  refine ⟨_, e, nI (idx K k), ?_, q⟩
  exact (numK_find (v := fun k => nI (idx K k))).trans (if_pos m)
theorem ink_at {p : Addr} {K : List Nat} {k : Nat} (e : h p = some (.dK (numK K))) {Q : Bool → DH → Prop} (q : Q (decide (k ∈ K)) h) : ∃ o, h p = some o ∧ (inO (nI k) o).run h Q E := by
  refine ⟨_, e, ?_⟩
  show Q (findK (numK K) (.inl (k : Int))).isSome h
  have : findK (numK K) (.inl (k : Int)) = _ := (numK_find (K := K) (k := k) (v := fun k => nI (idx K k)))
  rw [this]
  by_cases c : k ∈ K
  · rw [if_pos c]; rw [decide_eq_true c] at q; exact q
  · rw [if_neg c]; rw [decide_eq_false c] at q; exact q
theorem l2_least_run (ok : AutOk A) {fl : List Bool} (lf : fl.length = A.length) (hl : ∀ i, fl[i]? = some true ↔ Live A i) {cs : List Nat} (lc : cs.length = A.length) (hc : ∀ i j, i < A.length → j < A.length → (cs.getD i 0 = cs.getD j 0 ↔ Bis A A i j))
    {h0 : DH} {cp nb od pr : Addr} {ord0 : List Nat} (O : OrdI A (fun i => cs.getD i 0) ord0) (sq : seqM 1 (L.flatMap tgts) = some ord0.length) (s : Sta) (hs : s ∈ A)
    (fr : Fr h0 h) (hcp : h0 cp = some (.lst (cs.map nI))) (n1 : h0 nb = none) (n2 : h0 od = none) (n3 : h0 pr = none) (x1 : nb ≠ od) (x2 : nb ≠ pr) (x3 : od ≠ pr)
    (g1 : h nb = some (.dK (numK (ord0.map fun i => cs.getD i 0)))) (g2 : h od = some (.lst (ord0.map nI))) (g3 : h pr = some (.lst []))
    {Q : Fl Unit Unit → DH → Prop} (q : ∀ ord ps h', EdI A (fun i => cs.getD i 0) ord0 ord L s.es ps → Fr h0 h' → h' nb = some (.dK (numK (ord.map fun i => cs.getD i 0))) → h' od = some (.lst (ord.map nI)) → h' pr = some (.lst (ps.map edgD)) → (∀ a, a ≠ nb → a ≠ od → a ≠ pr → h' a = h a) → Q (.nx ()) h') :
    (forW (fun _ => True) (fun d c => uP (.tp [.nm, .nm]) d fun ds16 => l2_least (.cl (fl.map blD)) (.ref cp) (.ref nb) (.ref od) (.ref pr) (ds16.getD 0 .non) (ds16.getD 1 .non) c) (s.es.map edgD) ()).run h Q E := by
  have la := ok.len
  have ls := ok.le s hs
  refine run_for (fun j _ h' => ∃ ord ps, EdI A (fun i => cs.getD i 0) ord0 ord L (s.es.take j) ps ∧ Fr h0 h' ∧ h' nb = some (.dK (numK (ord.map fun i => cs.getD i 0))) ∧ h' od = some (.lst (ord.map nI)) ∧ h' pr = some (.lst (ps.map edgD)) ∧ (∀ a, a ≠ nb → a ≠ od → a ≠ pr → h' a = h a))
    ⟨ord0, [], ⟨O, ⟨[], by simp⟩, by rw [List.take_zero, show lv A [] = [] by unfold lv; rfl]; exact .nil, by simpa using sq⟩, fr, g1, g2, g3, fun _ _ _ _ => rfl⟩ ?_ ?_
  · rintro j _ h2 x hx ⟨ord, ps, I, fr2, e1, e2, e3, fx⟩
    rw [List.getElem?_map] at hx
    obtain ⟨e, he, rfl⟩ := Option.map_eq_some_iff.mp hx
    have heM := List.mem_of_getElem? he
    have lte := ok.lt s hs e heM
    have gfl : (fl.map blD)[e.2]? = some (blD ((fl[e.2]?).getD false)) := by rw [List.getElem?_map, List.getElem?_eq_getElem (by omega)]; rfl
    have tk : s.es.take (j + 1) = s.es.take j ++ [e] := take_one he
    have hcp2 := fr2.at_ hcp
    have gc : (cs.map nI)[e.2]? = some (nI (cs.getD e.2 0)) := by rw [List.getElem?_map, List.getD_eq_getElem?_getD, List.getElem?_eq_getElem (by omega)]; rfl
    have pl : ps.length ≤ 20 := by
      have h1 := I.er.len
      have h2 := (sub_fields A (s.es.take j)).length_le
      rw [List.length_map, List.length_map, List.length_take] at h2
      omega
    refine ⟨trivial, ⟨_, rfl, ?_⟩⟩
    unfold l2_least
    simp? only [true_and]
    refine ⟨_, gfl, ?_⟩
    cases c : (fl[e.2]?).getD false with
    | false =>
      simp? only [blD]
      have nl : ¬ Live A e.2 := fun l => by rw [(hl _).mpr l] at c; cases c
      exact ⟨ord, ps, ⟨I.o, I.ext, by rw [tk, lv_snoc, lv_not nl, List.append_nil]; exact I.er, I.sq⟩, fr2, e1, e2, e3, fx⟩
    | true =>
      have lv2 : Live A e.2 := (hl _).mp (by
        cases z : fl[e.2]? with
        | none => rw [z] at c; cases c
        | some b => rw [z] at c; rw [show b = true from c])
      simp? only [blD]
      have tail : ∀ (ord' : List Nat) (h3 : DH), OrdI A (fun i => cs.getD i 0) ord' → (∃ X, ord' = ord0 ++ X) → EdR (Tg A ord') ps (lv A (s.es.take j)) → cs.getD e.2 0 ∈ ord'.map (fun i => cs.getD i 0) →
          seqM 1 (L.flatMap tgts ++ (ps.map (·.2) ++ [idx (ord'.map (fun i => cs.getD i 0)) (cs.getD e.2 0)])) = some ord'.length → Fr h0 h3 → h3 nb = some (.dK (numK (ord'.map fun i => cs.getD i 0))) → h3 od = some (.lst (ord'.map nI)) → h3 pr = some (.lst (ps.map edgD)) → (∀ a, a ≠ nb → a ≠ od → a ≠ pr → h3 a = h a) →
          ((∃ xs, h3 pr = some (.lst xs)) ∧ (opIx2 (.ref cp) (.int (e.2 : Int))).run h3 (fun a h' => (opIx2 (.ref nb) a).run h' (fun a h' => (mAppend (.ref pr) [.tup [.str e.1, a]]).run h' (fun _ h' => ∃ ord ps, EdI A (fun i => cs.getD i 0) ord0 ord L (s.es.take (j + 1)) ps ∧ Fr h0 h' ∧ h' nb = some (.dK (numK (ord.map fun i => cs.getD i 0))) ∧ h' od = some (.lst (ord.map nI)) ∧ h' pr = some (.lst (ps.map edgD)) ∧ (∀ a, a ≠ nb → a ≠ od → a ≠ pr → h' a = h a)) E) E) E) := by
        intro ord' h3 O' ext er mem sq' fr3 r1 r2 r3 fx3
        refine ⟨⟨_, r3⟩, ?_⟩
        refine ix_at (fr3.at_ hcp) gc ?_
        refine ixk_at r1 mem ?_
        refine app_at r3 (Nat.lt_of_lt_of_le (by rw [List.length_map]; show ps.length < 10000; omega) (sz_le (Nat.le_refl _))) ?_
        have mi := idx_get mem
        rw [List.getElem?_map] at mi
        obtain ⟨i', hi', ei⟩ := Option.map_eq_some_iff.mp mi
        have li := (O'.live i' (List.mem_of_getElem? hi')).lt
        refine ⟨ord', ps ++ [(e.1, idx (ord'.map fun i => cs.getD i 0) (cs.getD e.2 0))], ⟨O', ext, ?_, by rw [List.map_append]; exact sq'⟩, FrX.put fr3 n3, by rw [DH.upd_ne x2]; exact r1, by rw [DH.upd_ne x3]; exact r2, by rw [DH.upd_same, List.map_append]; rfl, fun a z1 z2 z3 => by rw [DH.upd_ne z3]; exact fx3 a z1 z2 z3⟩
        rw [tk, lv_snoc, lv_one lv2]
        exact edr_snoc (j := e.2) er ⟨i', hi', (hc _ _ li lte).mp ei⟩
      refine ix_at hcp2 gc ?_
      refine ink_at e1 ?_
      have oeq : ∀ m', seqM 1 (L.flatMap tgts ++ (ps.map (·.2) ++ [m'])) = seqM ord.length [m'] := fun m' => by
        rw [← List.append_assoc, seqM_app, I.sq]; rfl
      by_cases mem : cs.getD e.2 0 ∈ ord.map (fun i => cs.getD i 0)
      · rw [decide_eq_true mem]
        refine ⟨fun z => (by cases z), fun _ => ?_⟩
        refine tail ord h2 I.o I.ext I.er mem ?_ fr2 e1 e2 e3 fx
        rw [oeq, seqM, if_pos]
        · rfl
        · have := idx_lt mem
          rw [List.length_map] at this
          exact this
      · rw [decide_eq_false mem]
        refine ⟨fun _ => ?_, fun z => (by cases z)⟩
        have O' : OrdI A (fun i => cs.getD i 0) (ord ++ [e.2]) := I.o.add lv2 mem
        have ol := O'.len
        rw [List.length_append, List.length_singleton] at ol
        refine ⟨_, e2, ?_⟩
        show _
        have pk : putD (numK (ord.map fun i => cs.getD i 0)) (.inl ((cs.getD e.2 0 : Nat) : Int)) (.int ((ord.map nI).length : Int)) = numK ((ord ++ [e.2]).map fun i => cs.getD i 0) := by
          rw [List.length_map, List.map_append]
          have := numK_put mem
          rw [List.length_map] at this
          exact this
        refine ix_at hcp2 gc ?_
        refine ⟨_, e1, ?_⟩
        refine ⟨Nat.lt_of_lt_of_le (by unfold numK; rw [List.length_map, List.length_map]; show ord.length < 10000; omega) (sz_le (Nat.le_refl _)), ?_⟩
        rw [pk]
        have e2' : (h2.upd nb (.dK (numK ((ord ++ [e.2]).map fun i => cs.getD i 0)))) od = some (.lst (ord.map nI)) := by rw [DH.upd_ne x1.symm]; exact e2
        refine ⟨⟨_, e2'⟩, _, e2', Nat.lt_of_lt_of_le (by rw [List.length_map]; show ord.length < 10000; omega) (sz_le (Nat.le_refl _)), ?_⟩
        refine tail (ord ++ [e.2]) _ O' (by obtain ⟨X, hX⟩ := I.ext; exact ⟨X ++ [e.2], by rw [hX, List.append_assoc]⟩) (I.er.mono fun k j => tg_mono) (by rw [List.map_append]; simp) ?_ (FrX.put (FrX.put fr2 n1) n2) ?_ ?_ ?_ ?_
        · rw [List.map_append, List.map_cons, List.map_nil, idx_new mem, oeq, List.length_map, seqM, if_neg (Nat.lt_irrefl _), if_pos rfl]
          simp [seqM]
        · rw [DH.upd_ne x1, DH.upd_same]
        · rw [DH.upd_same, List.map_append]; rfl
        · rw [DH.upd_ne x3.symm, DH.upd_ne x2.symm]; exact e3
        · intro a z1 z2 z3
          rw [DH.upd_ne z2, DH.upd_ne z1]; exact fx a z1 z2 z3
  · rintro _ h2 ⟨ord, ps, I, fr2, e1, e2, e3, fx⟩
    refine ⟨trivial, ?_⟩
    rw [List.length_map, List.take_length] at I
    exact q ord ps h2 I fr2 e1 e2 e3 fx
end
end K40
set_option maxHeartbeats 0
namespace K40
open PySem L2 DL
section
variable {A L : Aut} {h : DH} {E : EKt}
theorem numK_one (c : Nat) : mergeD [] [((Sum.inl (c : Int) : Key), D.int 0)] = numK [c] := by
  unfold numK mergeD
  simp [putD, idx, nI]
theorem flat_snoc (L : Aut) (s : Sta) : (L ++ [s]).flatMap tgts = L.flatMap tgts ++ tgts s := by rw [List.flatMap_append]; simp
theorem LstR.add {C : Nat → Nat} {ord0 ord : List Nat} (R : LstR A C ord0 L) {i : Nat} {s : Sta} (hi : ord0[L.length]? = some i) (hs : A[i]? = some s) {ps : List (Str × Nat)} (I : EdI A C ord0 ord L s.es ps) : LstR A C ord (L ++ [⟨s.ends, ps⟩]) := by
  obtain ⟨X, rfl⟩ := I.ext
  have lt := (List.getElem?_eq_some_iff.mp hi).1
  refine ⟨I.o, by rw [List.length_append, List.length_append, List.length_singleton]; omega, fun t ht i' s' hi' hs' => ?_, fun t ht => ?_, ?_⟩
  · rw [List.length_append, List.length_singleton] at ht
    by_cases c : t < L.length
    · rw [List.getElem?_append_left (by omega)] at hi'
      obtain ⟨s2, h1, h2, h3⟩ := R.row t c i' s' hi' hs'
      exact ⟨s2, by rw [List.getElem?_append_left c]; exact h1, h2, h3.mono fun k j => tg_mono⟩
    · have : t = L.length := by omega
      subst this
      rw [List.getElem?_append_left lt, hi] at hi'
      cases hi'
      rw [hs] at hs'
      cases hs'
      exact ⟨⟨s.ends, ps⟩, by simp, rfl, I.er⟩
  · rw [List.length_append, List.length_singleton] at ht
    by_cases c : t < L.length
    · rw [List.take_append_of_le_length (by omega)]
      exact R.go t c
    · have : t = L.length := by omega
      subst this
      rw [List.take_append_of_le_length (Nat.le_refl _), List.take_length]
      exact ⟨_, R.fin, lt⟩
  · rw [flat_snoc]
    exact I.sq
theorem LstR.done {C : Nat → Nat} {ord : List Nat} (R : LstR A C ord L) (hc : ∀ i j, i < A.length → j < A.length → (C i = C j ↔ Bis A A i j)) (e : ¬ L.length < ord.length) : LeastOf A L ord := by
  have le := R.le
  have el : ord.length = L.length := by omega
  refine ⟨el, R.o.z, fun t i h => R.o.live i (List.mem_of_getElem? h), fun t u i j ht hu b => ?_, fun t i s ht hs => R.row t (by rw [← el]; exact (List.getElem?_eq_some_iff.mp ht).1) i s ht hs, ⟨R.go, by rw [R.fin, el]⟩⟩
  have li := (R.o.live i (List.mem_of_getElem? ht)).lt
  have lj := (R.o.live j (List.mem_of_getElem? hu)).lt
  have ce := (hc i j li lj).mpr b
  obtain ⟨t1, t2⟩ := List.getElem?_eq_some_iff.mp ht
  obtain ⟨u1, u2⟩ := List.getElem?_eq_some_iff.mp hu
  have nd := R.o.nd
  refine (List.getElem_inj (h₀ := by rw [List.length_map]; exact t1) (h₁ := by rw [List.length_map]; exact u1) nd).mp ?_
  rw [List.getElem_map, List.getElem_map, t2, u2, ce]
theorem lt_n {m k : Nat} {Q : Bool → DH → Prop} (q : Q (decide (m < k)) h) : (opLt (.int (m : Int)) (.int (k : Int))).run h Q E := by
  by_cases e : m < k
  · rw [decide_eq_true e] at q
    rw [DL.ev_lt_t (by omega)]
    exact q
  · rw [decide_eq_false e] at q
    rw [DL.ev_lt_f (by omega)]
    exact q
theorem lenO_l {xs : List D} {Q : D → DH → Prop} (q : Q (.int (xs.length : Int)) h) : (lenO (.lst xs)).run h Q E := q
theorem least_run (ok : AutOk A) {Q : D → DH → Prop} (q : ∀ L h', IsLeast A L → Fr h h' → Q (autD L) h') : (c_least (autD A)).run h Q E := by
  refine fg ?_
  unfold cb_least
  simp? only [true_and]
  rw [ap1_e]
  refine lively_run ok fun fl lf hl h1 fr1 => ?_
  have la := ok.len
  by_cases c : Live A 0
  · have l0 := c.lt
    have ne : A ≠ [] := fun z => by rw [z] at l0; cases l0
    have ie : (A.map Sta.d).isEmpty = false := by
      cases A with
      | nil => exact absurd rfl ne
      | cons _ _ => rfl
    unfold autD
    simp? only [ie]
    have g0 : (fl.map blD)[0]? = some (.bl true) := by rw [List.getElem?_map, (hl 0).mpr c]; rfl
    refine ⟨_, g0, ?_⟩
    simp? only [true_and]
    rw [ap2_e]
    refine classes_run (A := A) ok ne lf hl fun cs cp h2 lc hc fr2 n2 hcp => ?_
    intro nb hnb
    have lc0 : 0 < cs.length := by omega
    have gc0 : (cs.map nI)[0]? = some (nI (cs.getD 0 0)) := by rw [List.getElem?_map, List.getD_eq_getElem?_getD, List.getElem?_eq_getElem lc0]; rfl
    have hcp3 : (h2.upd nb (.dK [])) cp = some (.lst (cs.map nI)) := by rw [DH.upd_ne (new_ne hnb hcp)]; exact hcp
    simp? only [ePairs]
    refine ix_at (i := 0) hcp3 gc0 ?_
    refine ⟨_, rfl, DH.upd_same, by decide, ?_⟩
    rw [show (h2.upd nb (.dK [])).upd nb (.dK (mergeD [] [(Sum.inl ((cs.getD 0 0 : Nat) : Int), D.int 0)])) = h2.upd nb (.dK (numK [cs.getD 0 0])) from by rw [fv_updupd, numK_one]]
    intro od hod fd hfd
    have x1 : nb ≠ od := new_ne hod DH.upd_same
    have x2 : nb ≠ fd := new_ne hfd (by rw [DH.upd_ne x1, DH.upd_same])
    have x3 : od ≠ fd := new_ne hfd DH.upd_same
    have n1 : h2 nb = none := hnb
    have n2' : h2 od = none := by rw [DH.upd_ne x1.symm] at hod; exact hod
    have n3 : h2 fd = none := by rw [DH.upd_ne x3.symm, DH.upd_ne x2.symm] at hfd; exact hfd
    refine run_while (L := Unit) (fun n _ h' => ∃ ord L, n = 200 - L.length ∧ LstR A (fun i => cs.getD i 0) ord L ∧ Fr h2 h' ∧ h' nb = some (.dK (numK (ord.map fun i => cs.getD i 0))) ∧ h' od = some (.lst (ord.map nI)) ∧ h' fd = some (.lst (L.map Sta.d))) (n := 200)
      ⟨[0], [], rfl, ⟨⟨rfl, fun i hi => by rw [List.mem_singleton.mp hi]; exact c, by simp⟩, by simp, fun t ht => (nomatch ht), fun t ht => (nomatch ht), rfl⟩, FrX.put (FrX.put (FrX.new n1) n2') n3, by rw [DH.upd_ne x2, DH.upd_ne x1, DH.upd_same]; rfl, by rw [DH.upd_ne x3, DH.upd_same]; rfl, DH.upd_same⟩ ?_
    rintro n _ h3 ⟨ord, L, rfl, R, fr3, e1, e2, e3⟩
    have ol := R.o.len
    have rl := R.le
    simp? only [true_and]
    refine ⟨_, e3, ?_⟩
    refine ⟨_, e2, ?_⟩
    rw [List.length_map]
    refine lenO_l ?_
    rw [List.length_map]
    refine lt_n ?_
    by_cases lt : L.length < ord.length
    · rw [decide_eq_true lt]
      refine ⟨fun _ => ?_, fun z => (by cases z)⟩
      unfold l1_least
      simp? only [true_and]
      refine ⟨_, e3, ?_⟩
      have hi : ord[L.length]? = some ord[L.length] := List.getElem?_eq_getElem lt
      generalize ord[L.length] = i at hi
      have li := (R.o.live i (List.mem_of_getElem? hi)).lt
      have hs : A[i]? = some A[i] := List.getElem?_eq_getElem li
      have hsA : A[i] ∈ A := List.getElem_mem li
      generalize A[i] = s at hs hsA
      refine lenO_l ?_
      rw [List.length_map]
      refine ix_at e2 (x := nI i) (by rw [List.getElem?_map, hi]; rfl) ?_
      refine ixt_at (st_get hs) ?_
      refine ⟨[.bl s.ends, .tup (s.es.map edgD)], rfl, ?_⟩
      intro pr hpr
      have y1 : nb ≠ pr := new_ne hpr e1
      have y2 : od ≠ pr := new_ne hpr e2
      have y3 : fd ≠ pr := new_ne hpr e3
      have n4 : h2 pr = none := fr_none fr3 hpr
      simp? only [true_and]
      refine l2_least_run (L := L) ok lf hl lc hc (h0 := h2) R.o R.fin s hsA (FrX.put fr3 n4) hcp n1 n2' n4 x1 y1 y2 (by rw [DH.upd_ne y1]; exact e1) (by rw [DH.upd_ne y2]; exact e2) DH.upd_same fun ord' ps h4 I fr4 g1 g2 g3 fx => ?_
      have g4 : h4 fd = some (.lst (L.map Sta.d)) := by
        rw [fx fd x2.symm x3.symm y3, DH.upd_ne y3]; exact e3
      simp? only [true_and]
      refine ⟨⟨_, g4⟩, ?_⟩
      refine ⟨_, g3, ?_⟩
      simp? only [true_and]
      refine ⟨_, g4, Nat.lt_of_lt_of_le (by rw [List.length_map]; show L.length < 10000; omega) (sz_le (Nat.le_refl _)), ?_⟩
      refine ⟨_, ?_, ord', L ++ [⟨s.ends, ps⟩], rfl, R.add hi hs I, FrX.put fr4 n3, by rw [DH.upd_ne x2]; exact g1, by rw [DH.upd_ne x3]; exact g2, by rw [DH.upd_same, List.map_append]; rfl⟩
      rw [List.length_append, List.length_singleton]; omega
    · rw [decide_eq_false lt]
      refine ⟨fun z => (by cases z), fun _ => ?_⟩
      refine ⟨_, e3, ?_⟩
      simp? only [true_and]
      exact q L _ (.some c (R.done hc lt)) (frx_del (fr1.trans (fr2.trans fr3)) (fr_none (fr1.trans fr2) n3))
  · unfold autD
    cases A with
    | nil => 
      simp? only [List.isEmpty_nil]
      exact q [] h1 (.none c) fr1
    | cons s A =>
      have g0 : (fl.map blD)[0]? = some (.bl false) := by
        have l0 : 0 < fl.length := by rw [lf]; simp
        rw [List.getElem?_map, List.getElem?_eq_getElem l0]
        cases z : fl[0] with
        | false => rfl
        | true => exact absurd ((hl 0).mp (by rw [List.getElem?_eq_getElem l0, z])) c
      simp? only [List.isEmpty_cons]
      refine ⟨_, g0, ?_⟩
      simp? only [true_and]
      exact q [] h1 (.none c) fr1
end
end K40
set_option maxHeartbeats 0
namespace K40
open PySem L2 DL
def oD : Option Nat → D
  | some i => .int (i : Int)
  | none => .int (-1)
def esAt (A : Aut) : Option Nat → List (Str × Nat)
  | some i => ((A[i]?).map (·.es)).getD []
  | none => []
def endAt (A : Aut) : Option Nat → Bool
  | some i => ((A[i]?).map (·.ends)).getD false
  | none => false
def stepA (A : Aut) (o : Option Nat) (f : Str) : Option Nat := (esAt A o).lookup f
def first (A : Aut) : Option Nat := if A = [] then none else some 0
def OkO (A : Aut) (o : Option Nat) : Prop := ∀ i, o = some i → i < A.length
def fsD (es : List (Str × Nat)) : D := .dk (es.map fun e => Sum.inr e.1) (es.map fun e => nI e.2)
theorem put_new {kvs : List (Key × D)} {k : Key} {v : D} (n : ∀ p ∈ kvs, p.1 ≠ k) : putD kvs k v = kvs ++ [(k, v)] := by
  unfold putD
  rw [if_neg]
  intro z
  obtain ⟨p, hp, e⟩ := List.any_eq_true.mp z
  exact n p hp (of_decide_eq_true e)
theorem merge_new : ∀ (more kvs : List (Key × D)), ((kvs ++ more).map (·.1)).Nodup → mergeD kvs more = kvs ++ more
  | [], kvs, _ => by simp [mergeD]
  | p :: more, kvs, n => by
    show mergeD (putD kvs p.1 p.2) more = _
    have nn : ∀ q ∈ kvs, q.1 ≠ p.1 := fun q hq e => by
      rw [List.map_append, List.nodup_append] at n
      exact n.2.2 q.1 (List.mem_map_of_mem hq) p.1 (by simp) e
    rw [put_new nn, merge_new more (kvs ++ [(p.1, p.2)]) (by simpa using n)]
    simp
def entE (e : Str × Nat) : Key × D := (.inr e.1, nI e.2)
theorem pairs_es : ∀ es : List (Str × Nat), pairsD (es.map edgD) = some (es.map entE)
  | [] => rfl
  | e :: es => by
    show (match keyD (.str e.1), pairsD (es.map edgD) with
      | some k, some l => some ((k, D.int (e.2 : Int)) :: l)
      | _, _ => none) = _
    rw [pairs_es es]; rfl
theorem merge_es {es : List (Str × Nat)} (n : (es.map (·.1)).Nodup) : mergeD [] (es.map entE) = es.map entE := by
  refine merge_new _ [] ?_
  rw [List.nil_append, List.map_map]
  have : (es.map ((fun x : Key × D => x.1) ∘ entE)) = (es.map (·.1)).map Sum.inr := by rw [List.map_map]; rfl
  rw [this]
  exact List.Pairwise.map _ (fun a b h => fun z => h (Sum.inr.inj z)) n
theorem zip_es (es : List (Str × Nat)) : (es.map fun e => (Sum.inr e.1 : Key)).zip (es.map fun e => nI e.2) = es.map entE := by
  induction es with
  | nil => rfl
  | cons p e ih => rw [List.map_cons, List.map_cons, List.zip_cons_cons, ih]; rfl
theorem find_es {x : Str} : ∀ es : List (Str × Nat), findK (es.map entE) (.inr x) = (es.lookup x).map nI
  | [] => rfl
  | p :: e => by
    have ih := find_es (x := x) e
    unfold findK at ih ⊢
    rw [List.map_cons, List.find?_cons, List.lookup_cons]
    by_cases c : p.1 = x
    · rw [show decide ((entE p).1 = Sum.inr x) = true from decide_eq_true (by show Sum.inr p.1 = _; rw [c]), show (x == p.1) = true from by simp [c]]
      rfl
    · rw [show decide ((entE p).1 = Sum.inr x) = false from decide_eq_false (fun z => c (Sum.inr.inj z)), show (x == p.1) = false from by simpa using fun z => c z.symm]
      exact ih
section
variable {A : Aut} {h : DH} {E : EKt}
theorem dict_es {es : List (Str × Nat)} (n : (es.map (·.1)).Nodup) {Q : D → DH → Prop} (q : Q (fsD es) h) : (bDictF4 [.cl (es.map edgD)]).run h Q E := by
  refine ⟨_, pairs_es es, ?_⟩
  rw [merge_es n, List.map_map, List.map_map]
  exact q
theorem get_es {es : List (Str × Nat)} {x : Str} {Q : D → DH → Prop} (q : Q (oD (es.lookup x)) h) : (mGet3 (fsD es) [.str x, .int (-1)]).run h Q E := by
  unfold fsD
  rw [DL.fw_getK2, zip_es, find_es]
  cases e : es.lookup x with
  | none => rw [e] at q; exact q
  | some i => rw [e] at q; exact q
theorem fs_dk {es : List (Str × Nat)} : isDK3 (fsD es) h := .inl (by unfold fsD; simp? only [true_and])
theorem first_ok : OkO A (first A) := fun i hi => by
  unfold first at hi
  cases A with
  | nil => simp at hi
  | cons s A => simp at hi; subst hi; simp
theorem es_at_mem {o : Option Nat} {e : Str × Nat} (he : e ∈ esAt A o) : ∃ i s, o = some i ∧ A[i]? = some s ∧ e ∈ s.es := by
  cases o with
  | none => cases he
  | some i =>
    have he : e ∈ ((A[i]?).map (·.es)).getD [] := he
    cases z : A[i]? with
    | none => rw [z] at he; cases he
    | some s => rw [z] at he; exact ⟨i, s, rfl, z, he⟩
theorem look_mem {es : List (Str × Nat)} {x : Str} {i : Nat} : es.lookup x = some i → (x, i) ∈ es := by
  induction es with
  | nil => intro h; cases h
  | cons p es ih =>
    intro h
    rw [List.lookup_cons] at h
    by_cases c : x = p.1
    · rw [show (x == p.1) = true from by simp [c]] at h
      have : p.2 = i := Option.some.inj h
      rw [c, ← this]
      exact List.mem_cons_self
    · rw [show (x == p.1) = false from by simpa using c] at h
      exact List.mem_cons_of_mem _ (ih h)
theorem step_ok (ok : AutOk A) {o : Option Nat} {f : Str} : OkO A (stepA A o f) := fun i hi => by
  obtain ⟨j, s, _, hs, he⟩ := es_at_mem (look_mem hi)
  exact ok.lt s (List.mem_of_getElem? hs) _ he
theorem first_of_run {Q : D → DH → Prop} (q : Q (oD (first A)) h) : (c_first_of (autD A)).run h Q E := by
  refine fg ?_
  unfold cb_first_of
  cases A with
  | nil =>
    simp? only [autD, List.isEmpty_nil]
    exact q
  | cons s A =>
    simp? only [autD, List.isEmpty_cons]
    exact q
theorem ends_at_run {o : Option Nat} (k : OkO A o) {Q : D → DH → Prop} (q : Q (.bl (endAt A o)) h) : (c_ends_at (autD A) (oD o)).run h Q E := by
  refine fg ?_
  unfold cb_ends_at
  cases o with
  | none =>
    simp? only [oD, g_NOWHERE]
    exact q
  | some i =>
    have li := k i rfl
    have ne : ¬ ((i : Int) = -1) := by omega
    simp? only [oD, g_NOWHERE, autD, ne]
    refine ⟨_, st_get (List.getElem?_eq_getElem li), ?_⟩
    simp? only [Sta.d]
    unfold endAt at q
    simp only [List.getElem?_eq_getElem li, Option.map_some, Option.getD_some] at q
    exact q
theorem edges_at_run (ok : AutOk A) {o : Option Nat} (k : OkO A o) {Q : D → DH → Prop} (q : Q (fsD (esAt A o)) h) : (c_edges_at (autD A) (oD o)).run h Q E := by
  refine fg ?_
  unfold cb_edges_at
  cases o with
  | none =>
    simp? only [oD, g_NOWHERE]
    exact q
  | some i =>
    have li := k i rfl
    have ne : ¬ ((i : Int) = -1) := by omega
    simp? only [oD, g_NOWHERE, autD, ne]
    refine ⟨_, st_get (List.getElem?_eq_getElem li), ?_⟩
    simp? only [Sta.d]
    unfold esAt at q
    simp only [List.getElem?_eq_getElem li, Option.map_some, Option.getD_some] at q
    exact dict_es (ok.nd _ (List.getElem_mem li)) q
def behA (A : Aut) (w : List Str) : Option Nat := w.foldl (stepA A) (first A)
theorem beh_ok (ok : AutOk A) (w : List Str) : OkO A (behA A w) := by
  unfold behA
  have : ∀ (w : List Str) (o : Option Nat), OkO A o → OkO A (w.foldl (stepA A) o) := fun w => by
    induction w with
    | nil => exact fun _ h => h
    | cons f w ih => exact fun o _ => ih _ (step_ok ok)
  exact this w _ first_ok
theorem state_behind_run (ok : AutOk A) {w : List Str} {Q : D → DH → Prop} (q : Q (oD (behA A w)) h) : (c_state_behind (autD A) (.tup (w.map D.str))).run h Q E := by
  refine fg ?_
  unfold cb_state_behind
  simp? only [true_and]
  rw [ap1_e]
  refine first_of_run ?_
  refine run_for (fun i c h' => h' = h ∧ ∃ o, c = oD o ∧ OkO A o ∧ o = (w.take i).foldl (stepA A) (first A)) ⟨rfl, _, rfl, first_ok, rfl⟩ ?_ ?_
  · rintro i _ _ x hx ⟨rfl, o, rfl, k, e⟩
    rw [List.getElem?_map] at hx
    obtain ⟨f, hf, rfl⟩ := Option.map_eq_some_iff.mp hx
    refine ⟨trivial, ?_⟩
    unfold l1_state_behind
    simp? only [true_and]
    rw [ap2_e]
    refine edges_at_run ok k ?_
    refine ⟨fs_dk, ?_⟩
    refine get_es ?_
    refine ⟨rfl, _, rfl, step_ok ok (o := o) (f := f), ?_⟩
    rw [take_one hf, List.foldl_append, ← e]
    rfl
  · rintro _ _ ⟨rfl, o, rfl, k, e⟩
    refine ⟨trivial, ?_⟩
    simp? only [true_and]
    rw [List.length_map, List.take_length] at e
    rw [show behA A w = o from e.symm] at q
    exact q
end
end K40
set_option maxHeartbeats 0
namespace K40
open PySem L2 DL
section
variable {A L : Aut} {h : DH} {E : EKt}
def rootO (A : Aut) : Option Nat → Aut
  | some i => rootA A i
  | none => []
theorem rooted_run (ok : AutOk A) {o : Option Nat} (k : OkO A o) {Q : D → DH → Prop} (q : Q (autD (rootO A o)) h) : (c_rooted (autD A) (oD o)).run h Q E := by
  refine fg ?_
  unfold cb_rooted
  cases o with
  | none =>
    simp? only [oD, g_NOWHERE]
    exact q
  | some i =>
    have li := k i rfl
    have la := ok.len
    have ne : ¬ ((i : Int) = -1) := by omega
    simp? only [oD, g_NOWHERE, autD, ne]
    refine comp_map Sta.d (fun s => some (shift s).d) A (Nat.le_trans ok.len (by decide)) (fun _ _ => trivial) (fun s hs h2 Q' _ q' => ?_) ?_
    · simp? only [Sta.d, m2_rooted]
      refine ⟨_, rfl, ?_⟩
      simp? only [true_and]
      refine comp_map edgD (fun e => some (edgD (e.1, e.2 + 1))) s.es (Nat.le_trans (ok.le s hs) (by decide)) (fun _ _ => trivial) (fun e _ h3 Q2 _ q2 => ?_) ?_
      · simp? only [edgD, m1_rooted]
        refine ⟨_, rfl, ?_⟩
        simp? only [true_and]
        have e1 : edgD (e.1, e.2 + 1) = .tup [.str e.1, .int ((e.2 : Int) + 1)] := by unfold edgD; simp
        rw [e1] at q2
        exact q2
      · simp? only [true_and]
        have e1 : (shift s).d = .tup [.bl s.ends, .tup (s.es.filterMap fun e => some (edgD (e.1, e.2 + 1)))] := by
          have : (s.es.filterMap fun e => some (edgD (e.1, e.2 + 1))) = (s.es.map fun e => (e.1, e.2 + 1)).map edgD := by
            rw [List.map_map]; exact congrFun (List.filterMap_eq_map (f := fun e : Str × Nat => edgD (e.1, e.2 + 1))) s.es
          rw [this]; rfl
        rw [e1] at q'
        exact q'
    · simp? only [true_and]
      have e1 : (A.filterMap fun s => some (shift s).d) = (A.map shift).map Sta.d := by rw [List.map_map]; exact congrFun (List.filterMap_eq_map (f := fun s : Sta => (shift s).d)) A
      have q : Q (autD (rootA A i)) h := q
      rw [rootA_eq li] at q
      rw [e1]
      refine ⟨(shift A[i]).d, ?_, ?_, q⟩
      · rw [List.getElem?_map, List.getElem?_map, List.getElem?_eq_getElem li]; rfl
      · rw [List.length_map, List.length_map]; exact sz_le (by omega)
def DemA (h : DH) (p : Addr) (L : Aut) : Prop := h p = some (.ins "Demand" [("automaton", autD L)])
theorem fld_ev {ns : List Str} {f n : Str} {a : Addr} {fs : List (Str × D)} {v : D} {Q : D → DH → Prop} (e : h a = some (.ins n fs)) (hn : n ∈ ns) (l : fs.lookup f = some v) (q : Q v h) : (opFld ns f (.ref a)).run h Q E := ⟨_, e, hn, v, l, q⟩
theorem dem_fld {p : Addr} (d : DemA h p L) {Q : D → DH → Prop} (q : Q (autD L) h) : (opFld ["Demand"] "automaton" (.ref p)).run h Q E := fld_ev d (by simp) rfl q
theorem init_run (ok : AutOk A) {p : Addr} (hp : h p = none) {Q : D → DH → Prop} (q : ∀ L h', IsLeast A L → DemA h' p L → Fr h h' → Q .non h') : (c_Demand_init (.ref p) (autD A)).run (h.upd p (.ins "Demand" [])) Q E := by
  refine fg ?_
  unfold cb_Demand_init
  simp? only [true_and]
  rw [ap1_e]
  refine least_run ok fun L h' l fr => ?_
  have e : h' p = some (.ins "Demand" []) := fr.at_ DH.upd_same
  refine ⟨_, e, by simp, by simp, ?_⟩
  refine q L _ l DH.upd_same ?_
  exact FrX.put ((FrX.new hp).trans fr) hp
theorem make_run (ok : AutOk A) {Q : D → DH → Prop} (q : ∀ p L h', IsLeast A L → h p = none → DemA h' p L → Fr h h' → Q (.ref p) h') : (eMake "Demand" (ap2 c_Demand_init) [W.pure (autD A)]).run h Q E := by
  simp? only [true_and]
  intro p hp
  rw [ap2_e]
  refine init_run ok hp fun L h' l d fr => ?_
  exact q p L h' l hp d fr
theorem of_run (ok : AutOk A) {Q : D → DH → Prop} (q : ∀ p L h', IsLeast A L → h p = none → DemA h' p L → Fr h h' → Q (.ref p) h') : (c_Demand_of (autD A)).run h Q E := by
  refine fg ?_
  unfold cb_Demand_of
  exact make_run ok q
theorem bool_run {p : Addr} (d : DemA h p L) {Q : D → DH → Prop} (q : Q (.bl (decide (L ≠ []))) h) : (c_Demand_bool (.ref p)).run h Q E := by
  refine fg ?_
  unfold cb_Demand_bool
  simp? only [true_and]
  refine dem_fld d ?_
  cases L with
  | nil =>
    simp? only [autD]
    exact q
  | cons s L =>
    simp? only [autD]
    rw [show decide ((((L.map Sta.d).length + 1 : Nat) : Int) > 0) = true from decide_eq_true (by omega)]
    exact q
theorem contains_run (ok : AutOk L) {p : Addr} (d : DemA h p L) {w : List Str} {Q : D → DH → Prop} (q : Q (.bl (endAt L (behA L w))) h) : (c_Demand_contains (.ref p) (.tup (w.map D.str))).run h Q E := by
  refine fg ?_
  unfold cb_Demand_contains
  simp? only [true_and]
  refine dem_fld d ?_
  refine dem_fld d ?_
  rw [ap2_e]
  refine state_behind_run ok ?_
  rw [ap2_e]
  exact ends_at_run (beh_ok ok w) q
theorem behind_run (ok : AutOk L) (l98 : L.length < 100) {p : Addr} (d : DemA h p L) {f : Str} {Q : D → DH → Prop} (q : ∀ p' L' h', IsLeast (rootO L (stepA L (first L) f)) L' → h p' = none → DemA h' p' L' → Fr h h' → Q (.ref p') h') : (c_Demand_behind (.ref p) (.str f)).run h Q E := by
  refine fg ?_
  unfold cb_Demand_behind
  simp? only [true_and]
  refine dem_fld d ?_
  refine dem_fld d ?_
  rw [ap2_e]
  refine state_behind_run (w := [f]) ok ?_
  rw [ap2_e]
  refine rooted_run ok (beh_ok ok [f]) ?_
  intro p' hp'
  rw [ap2_e]
  have ok' : AutOk (rootO L (behA L [f])) := by
    cases e : behA L [f] with
    | none => exact ⟨fun s hs => (nomatch hs), fun s hs => (nomatch hs), fun s hs => (nomatch hs), by simp [rootO]⟩
    | some i => exact root_ok ok (beh_ok ok [f] i e) l98
  refine init_run ok' hp' fun L' h' l d' fr => ?_
  exact q p' L' h' l hp' d' fr
theorem fields_run (ok : AutOk L) {p : Addr} (d : DemA h p L) {Q : D → DH → Prop} (q : Q (.tup ((sortS ((esAt L (first L)).map (·.1))).map D.str)) h) : (c_Demand_fields (.ref p)).run h Q E := by
  refine fg ?_
  unfold cb_Demand_fields
  simp? only [true_and]
  refine dem_fld d ?_
  refine dem_fld d ?_
  rw [ap1_e]
  refine first_of_run ?_
  rw [ap2_e]
  refine edges_at_run ok first_ok ?_
  unfold fsD
  simp? only [true_and]
  rw [zip_es, List.map_map, List.map_map, show (esAt L (first L)).map ((kD ∘ Prod.fst) ∘ entE) = ((esAt L (first L)).map (·.1)).map D.str by rw [List.map_map]; rfl]
  exact ⟨_, strsD_map _, q⟩
structure FP (l : List Str) : Prop where
  ok : ∀ x ∈ l, PyData.strOk x = true ∧ x.length ≤ 20
  srt : l.Pairwise fun a b => leS a b = true
def AutF (A : Aut) : Prop := ∀ s ∈ A, FP (s.es.map (·.1))
theorem po_aut (ok : AutOk A) (f : AutF A) : PO (autD A) := by
  refine .tup fun x hx => ?_
  obtain ⟨s, hs, rfl⟩ := List.mem_map.mp hx
  refine .tup fun y hy => ?_
  rcases List.mem_cons.mp hy with rfl | hy
  · exact .bl _
  · rw [List.mem_singleton] at hy
    rw [hy]
    refine .tup fun z hz => ?_
    obtain ⟨e, he, rfl⟩ := List.mem_map.mp hz
    have le := ok.lt s hs e he
    have la := ok.len
    refine .tup fun w hw => ?_
    rcases List.mem_cons.mp hw with rfl | hw
    · exact .str _ ((f s hs).ok _ (List.mem_map_of_mem he)).1
    · rw [List.mem_singleton] at hw
      rw [hw]
      refine .int _ (Nat.lt_of_le_of_lt (m := 100) (by omega) (by decide))
theorem wps_le {b : Nat} : ∀ {xs : List D}, (∀ x ∈ xs, wP x ≤ b) → wPs xs ≤ xs.length * (b + 1)
  | [], _ => by simp [wPs]
  | x :: xs, h => by
    have h1 := h x List.mem_cons_self
    have h2 := wps_le (xs := xs) fun y hy => h y (List.mem_cons_of_mem _ hy)
    rw [wPs, List.length_cons, Nat.succ_mul]
    omega
theorem dps_le {b : Nat} : ∀ {xs : List D}, (∀ x ∈ xs, dP x ≤ b) → dPs xs ≤ b
  | [], _ => by simp [dPs]
  | x :: xs, h => by
    have h1 := h x List.mem_cons_self
    have h2 := dps_le (xs := xs) fun y hy => h y (List.mem_cons_of_mem _ hy)
    rw [dPs]
    omega
theorem dp_aut : dP (autD A) ≤ 60 := by
  unfold autD
  rw [dP]
  have := dps_le (b := 20) (xs := A.map Sta.d) fun x hx => by
    obtain ⟨s, hs, rfl⟩ := List.mem_map.mp hx
    unfold Sta.d
    rw [dP, dPs, dPs, dPs, dP, dP]
    have := dps_le (b := 10) (xs := s.es.map edgD) fun x hx => by
      obtain ⟨e, he, rfl⟩ := List.mem_map.mp hx
      simp [edgD, dP, dPs]
    omega
    all_goals (intros; simp_all)
  omega
theorem wp_aut (ok : AutOk A) (f : AutF A) : wP (autD A) ≤ 380000 := by
  unfold autD
  rw [wP]
  have h1 := wps_le (b := 3500) (xs := A.map Sta.d) fun x hx => by
    obtain ⟨s, hs, rfl⟩ := List.mem_map.mp hx
    unfold Sta.d
    have h2 := wps_le (b := 165) (xs := s.es.map edgD) fun x hx => by
      obtain ⟨e, he, rfl⟩ := List.mem_map.mp hx
      have := ((f s hs).ok _ (List.mem_map_of_mem he)).2
      simp [edgD, wP, wPs]
      omega
    have h3 := ok.le s hs
    rw [List.length_map] at h2
    simp [wP, wPs]
    omega
  have h4 := ok.len
  rw [List.length_map] at h1
  omega
theorem sh_aut (ok : AutOk A) (f : AutF A) : Sh (autD A) := ⟨po_aut ok f, wp_aut ok f, dp_aut⟩
theorem eq_run (ok : AutOk L) (f : AutF L) {p p' : Addr} (d : DemA h p L) (d' : DemA h p' L) {Q : D → DH → Prop} (q : Q (.bl true) h) : (c_Demand_eq (.ref p) (.ref p')).run h Q E := by
  refine fg ?_
  unfold cb_Demand_eq
  simp? only [true_and]
  refine ⟨_, d', ⟨rfl, ?_⟩⟩
  simp? only [true_and]
  refine dem_fld d ?_
  refine dem_fld d' ?_
  exact eq4_same (po_aut ok f) dp_aut q
end
end K40
set_option maxHeartbeats 0
namespace K40
open PySem L2 DL
section
variable {A L : Aut} {h : DH} {E : EKt}
theorem FP.sub {l m : List Str} (f : FP m) (s : l.Sublist m) : FP l := ⟨fun x hx => f.ok x (s.subset hx), f.srt.sublist s⟩
theorem FP.nil : FP [] := ⟨fun x hx => (nomatch hx), .nil⟩
theorem FP.sort {l : List Str} (f : FP l) : sortS l = l := List.mergeSort_of_pairwise f.srt
theorem lv_fp {es : List (Str × Nat)} (f : FP (es.map (·.1))) : FP ((lv A es).map (·.1)) := f.sub (sub_fields A es)
theorem IsLeast.fp (l : IsLeast A L) (f : AutF A) : AutF L := by
  cases l with
  | none _ => exact fun s hs => (nomatch hs)
  | some _ o =>
    intro s hs
    obtain ⟨t, ht⟩ := List.getElem?_of_mem hs
    obtain ⟨i, s0, _, h0, _, r⟩ := o.back ht
    rw [r.fields]
    exact lv_fp (f s0 (List.mem_of_getElem? h0))
theorem IsLeast.len_le (l : IsLeast A L) (ok : AutOk A) : L.length ≤ A.length := by
  cases l with
  | none _ => exact Nat.zero_le _
  | some _ o => exact o.len_le ok
theorem IsLeast.ok (l : IsLeast A L) (ok : AutOk A) : AutOk L := by
  have le := l.len_le ok
  have := ok.len
  cases l with
  | none _ => exact ⟨fun s hs => (nomatch hs), fun s hs => (nomatch hs), fun s hs => (nomatch hs), by simp⟩
  | some _ o => exact o.ok ok (by omega)
theorem root_fp (f : AutF A) (o : Option Nat) : AutF (rootO A o) := by
  cases o with
  | none => exact fun s hs => (nomatch hs)
  | some i =>
    intro s hs
    have : ∃ s0 ∈ A, s = shift s0 := by
      have hs : s ∈ rootA A i := hs
      unfold rootA at hs
      rcases List.mem_append.mp hs with hs | hs
      · obtain ⟨s0, h0, e⟩ := List.mem_map.mp (List.mem_of_getElem? (Option.mem_toList.mp hs))
        exact ⟨s0, h0, e.symm⟩
      · obtain ⟨s0, h0, e⟩ := List.mem_map.mp hs
        exact ⟨s0, h0, e.symm⟩
    obtain ⟨s0, h0, rfl⟩ := this
    have e : (shift s0).es.map (·.1) = s0.es.map (·.1) := by
      show ((s0.es.map fun e => (e.1, e.2 + 1)).map (·.1)) = _
      rw [List.map_map]; rfl
    rw [e]
    exact f s0 h0
structure Lst (n : Nat) (L : Aut) : Prop where
  ok : AutOk L
  f : AutF L
  l : ∃ B, AutOk B ∧ IsLeast B L
  len : L.length ≤ n
theorem Lst.mk_ {n : Nat} (l : IsLeast A L) (ok : AutOk A) (f : AutF A) (hn : A.length ≤ n) : Lst n L := ⟨l.ok ok, l.fp f, ⟨A, ok, l⟩, Nat.le_trans (l.len_le ok) hn⟩
theorem Lst.all {n : Nat} (l : Lst n L) {i : Nat} (h : i < L.length) : Live L i := by
  obtain ⟨B, okB, lb⟩ := l.l
  cases lb with
  | none _ => cases h
  | some _ o => exact o.all_live okB h
theorem Lst.lv {n : Nat} (l : Lst n L) {s : Sta} (hs : s ∈ L) : lv L s.es = s.es := lv_all fun e he => l.all (l.ok.lt s hs e he)
theorem Lst.self {n : Nat} (l : Lst n L) {L' : Aut} (h : IsLeast L L') : L' = L := by
  obtain ⟨B, okB, lb⟩ := l.l
  exact least_least lb okB h
def Rl (L A : Aut) (o : Option Nat) : Prop := (∃ i, o = some i ∧ Live A i ∧ Bis L A 0 i) ∨ (L = [] ∧ ∀ i, o = some i → ¬ Live A i)
theorem bis_some {B : Aut} {i j : Nat} (h : Bis A B i j) : i < A.length ∧ j < B.length := by
  obtain ⟨s, t, h1, h2, _⟩ := bis_at h
  exact ⟨(List.getElem?_eq_some_iff.mp h1).1, (List.getElem?_eq_some_iff.mp h2).1⟩
theorem look_edr {R : Nat → Nat → Prop} {a b : List (Str × Nat)} (h : EdR R a b) (f : Str) : (a.lookup f = none ∧ b.lookup f = none) ∨ ∃ i j, a.lookup f = some i ∧ b.lookup f = some j ∧ R i j := by
  induction h with
  | nil => exact .inl ⟨rfl, rfl⟩
  | @cons g i j a b r _ ih =>
    rw [List.lookup_cons, List.lookup_cons]
    cases f == g with
    | true => exact .inr ⟨i, j, rfl, rfl, r⟩
    | false => exact ih
theorem look_lv {es : List (Str × Nat)} (n : (es.map (·.1)).Nodup) (f : Str) : (∃ i, (lv A es).lookup f = some i ∧ es.lookup f = some i ∧ Live A i) ∨ ((lv A es).lookup f = none ∧ ∀ i, es.lookup f = some i → ¬ Live A i) := by
  induction es with
  | nil => exact .inr ⟨by unfold lv; rfl, fun i h => by cases h⟩
  | cons e es ih =>
    rw [List.map_cons, List.nodup_cons] at n
    have ih := ih n.2
    by_cases c : f = e.1
    · subst c
      have look : (e :: es).lookup e.1 = some e.2 := by rw [List.lookup_cons]; simp
      by_cases l : Live A e.2
      · refine .inl ⟨e.2, ?_, look, l⟩
        rw [show lv A (e :: es) = e :: lv A es by unfold lv; rw [List.filter_cons_of_pos]; simpa using l, List.lookup_cons]
        simp
      · refine .inr ⟨?_, fun i hi => by rw [look] at hi; cases hi; exact l⟩
        rw [show lv A (e :: es) = lv A es by unfold lv; rw [List.filter_cons_of_neg]; simpa using l]
        cases z : (lv A es).lookup e.1 with
        | none => rfl
        | some i =>
          have := (mem_lv.mp (look_mem z)).1
          exact absurd (List.mem_map.mpr ⟨_, this, rfl⟩) n.1
    · have e1 : (e :: es).lookup f = es.lookup f := by rw [List.lookup_cons, show (f == e.1) = false from by simpa using c]
      have e2 : (lv A (e :: es)).lookup f = (lv A es).lookup f := by
        by_cases l : Live A e.2
        · rw [show lv A (e :: es) = e :: lv A es by unfold lv; rw [List.filter_cons_of_pos]; simpa using l, List.lookup_cons, show (f == e.1) = false from by simpa using c]
        · rw [show lv A (e :: es) = lv A es by unfold lv; rw [List.filter_cons_of_neg]; simpa using l]
      rw [e1, e2]; exact ih
theorem rl_first (ok : AutOk A) (l : IsLeast A L) : Rl L A (first A) := by
  cases l with
  | none n =>
    refine .inr ⟨rfl, fun i hi => ?_⟩
    unfold first at hi
    split at hi
    · cases hi
    · cases hi; exact n
  | some h o =>
    have ne : A ≠ [] := fun z => by have := h.lt; rw [z] at this; cases this
    exact .inl ⟨0, by unfold first; rw [if_neg ne], h, o.bis ok o.z⟩
theorem rl_step (ok : AutOk A) {n : Nat} (hn : n < 100) (k : Lst n L) {o : Option Nat} (ko : OkO A o) (r : Rl L A o) (f : Str) {L' : Aut} (l' : IsLeast (rootO L (stepA L (first L) f)) L') : Rl L' A (stepA A o f) := by
  have l100 : L.length < 100 := Nat.lt_of_le_of_lt k.len hn
  have none_case : stepA L (first L) f = none → L' = [] := fun e => by
    rw [e] at l'
    cases l' with
    | none _ => rfl
    | some h _ => exact absurd h.lt (by simp [rootO])
  rcases r with ⟨i, rfl, li, b⟩ | ⟨rfl, nl⟩
  · obtain ⟨s, t, h1, h2, h3, h4⟩ := bis_at b
    have ne : L ≠ [] := fun z => by rw [z] at h1; cases h1
    have fl : first L = some 0 := by unfold first; rw [if_neg ne]
    have sL : stepA L (first L) f = s.es.lookup f := by unfold stepA esAt; rw [fl]; simp [h1]
    have sA : stepA A (some i) f = t.es.lookup f := by unfold stepA esAt; simp [h2]
    rw [k.lv (List.mem_of_getElem? h1)] at h4
    rcases look_edr h4 f with ⟨e1, e2⟩ | ⟨x, y, e1, e2, r⟩
    · rw [sA]
      refine .inr ⟨none_case (by rw [sL, e1]), fun j hj lj => ?_⟩
      rcases look_lv (A := A) (ok.nd t (List.mem_of_getElem? h2)) f with ⟨z, z1, z2, z3⟩ | ⟨_, z2⟩
      · rw [e2] at z1; cases z1
      · exact z2 j hj lj
    · rcases look_lv (A := A) (ok.nd t (List.mem_of_getElem? h2)) f with ⟨z, z1, z2, z3⟩ | ⟨z1, _⟩
      · rw [e2] at z1
        cases z1
        rw [sL, e1] at l'
        have lx := (bis_some r).1
        have rb := root_bis k.ok lx
        have rl : Live (rootA L x) 0 := bis_live (bis_symm rb) (k.all lx)
        have okr := root_ok k.ok lx l100
        refine .inl ⟨y, by rw [sA, z2], z3, bis_trans (least_bis l' okr rl).1 (bis_trans rb r)⟩
      · rw [e2] at z1; cases z1
  · refine .inr ⟨none_case rfl, fun j hj lj => ?_⟩
    obtain ⟨i, s, rfl, hs, he⟩ := es_at_mem (look_mem hj)
    exact nl i rfl (.step hs he lj)
theorem rl_fields {n : Nat} (k : Lst n L) {o : Option Nat} (r : Rl L A o) : (esAt L (first L)).map (·.1) = (lv A (esAt A o)).map (·.1) := by
  rcases r with ⟨i, rfl, li, b⟩ | ⟨rfl, nl⟩
  · obtain ⟨s, t, h1, h2, h3, h4⟩ := bis_at b
    have ne : L ≠ [] := fun z => by rw [z] at h1; cases h1
    have fl : first L = some 0 := by unfold first; rw [if_neg ne]
    rw [k.lv (List.mem_of_getElem? h1)] at h4
    rw [fl, show esAt L (some 0) = s.es by unfold esAt; simp [h1], show esAt A (some i) = t.es by unfold esAt; simp [h2]]
    exact h4.fields
  · have : lv A (esAt A o) = [] := by
      cases e : lv A (esAt A o) with
      | nil => rfl
      | cons x xs =>
        have hx : x ∈ lv A (esAt A o) := by rw [e]; exact List.mem_cons_self
        obtain ⟨m1, m2⟩ := mem_lv.mp hx
        obtain ⟨i, s, rfl, hs, he⟩ := es_at_mem m1
        exact absurd (Live.step hs he m2) (nl i rfl)
    rw [this]; rfl
end
end K40
set_option maxHeartbeats 0
namespace K40
open PySem L2 DL
section
variable {A L : Aut} {h : DH} {E : EKt}
def Rp (L A : Aut) (o1 o2 : Option Nat) : Prop := (∃ x i, o1 = some x ∧ o2 = some i ∧ Live A i ∧ Bis L A x i) ∨ (o1 = none ∧ ∀ i, o2 = some i → ¬ Live A i)
theorem rl_rp {o : Option Nat} (r : Rl L A o) : Rp L A (first L) o := by
  rcases r with ⟨i, rfl, li, b⟩ | ⟨rfl, nl⟩
  · have lt := (bis_some b).1
    have ne : L ≠ [] := fun z => by rw [z] at lt; cases lt
    exact .inl ⟨0, i, by unfold first; rw [if_neg ne], rfl, li, b⟩
  · exact .inr ⟨rfl, nl⟩
theorem rp_step (ok : AutOk A) {n : Nat} (k : Lst n L) {o1 o2 : Option Nat} (r : Rp L A o1 o2) (f : Str) : Rp L A (stepA L o1 f) (stepA A o2 f) := by
  rcases r with ⟨x, i, rfl, rfl, li, b⟩ | ⟨rfl, nl⟩
  · obtain ⟨s, t, h1, h2, h3, h4⟩ := bis_at b
    have sL : stepA L (some x) f = s.es.lookup f := by unfold stepA esAt; simp [h1]
    have sA : stepA A (some i) f = t.es.lookup f := by unfold stepA esAt; simp [h2]
    rw [k.lv (List.mem_of_getElem? h1)] at h4
    rw [sL, sA]
    rcases look_edr h4 f with ⟨e1, e2⟩ | ⟨x, y, e1, e2, r⟩
    · refine .inr ⟨e1, fun j hj lj => ?_⟩
      rcases look_lv (A := A) (ok.nd t (List.mem_of_getElem? h2)) f with ⟨z, z1, z2, z3⟩ | ⟨_, z2⟩
      · rw [e2] at z1; cases z1
      · exact z2 j hj lj
    · rcases look_lv (A := A) (ok.nd t (List.mem_of_getElem? h2)) f with ⟨z, z1, z2, z3⟩ | ⟨z1, _⟩
      · rw [e2] at z1
        cases z1
        exact .inl ⟨x, y, e1, z2, z3, r⟩
      · rw [e2] at z1; cases z1
  · refine .inr ⟨rfl, fun j hj lj => ?_⟩
    obtain ⟨i, s, rfl, hs, he⟩ := es_at_mem (look_mem hj)
    exact nl i rfl (.step hs he lj)
theorem rp_end {o1 o2 : Option Nat} (r : Rp L A o1 o2) : endAt L o1 = endAt A o2 := by
  rcases r with ⟨x, i, rfl, rfl, li, b⟩ | ⟨rfl, nl⟩
  · obtain ⟨s, t, h1, h2, h3, h4⟩ := bis_at b
    unfold endAt
    simp [h1, h2, h3]
  · cases o2 with
    | none => rfl
    | some i =>
      have n := nl i rfl
      show false = ((A[i]?).map (·.ends)).getD false
      cases z : A[i]? with
      | none => rfl
      | some s =>
        cases e : s.ends with
        | false => simp [e]
        | true => exact absurd (.fin z e) n
theorem filt_look {es : List (Str × Nat)} {f : Str} : ((es.filter fun e => decide (e.1 = f)).map fun e => nI e.2).head? = (es.lookup f).map nI := by
  induction es with
  | nil => rfl
  | cons e es ih =>
    rw [List.lookup_cons]
    by_cases c : e.1 = f
    · rw [List.filter_cons_of_pos (by simpa using c), show (f == e.1) = true from by simp [c]]; rfl
    · rw [List.filter_cons_of_neg (by simpa using c), show (f == e.1) = false from by simpa using fun z => c z.symm]; exact ih
theorem to_run (ok : AutOk A) {o : Option Nat} (k : OkO A o) {f : Str} {Q : D → DH → Prop} (q : Q (oD (stepA A o f)) h) : (c_law_to (autD A) (oD o) (.str f)).run h Q E := by
  refine fg ?_
  unfold cb_law_to
  cases o with
  | none =>
    simp? only [oD]
    exact q
  | some i =>
    have li := k i rfl
    have hs := List.getElem?_eq_getElem li
    have hsA := List.getElem_mem li
    have ge : (i : Int) ≥ 0 := by omega
    simp? only [oD, autD, ge]
    refine ⟨_, st_get hs, ?_⟩
    simp? only [Sta.d]
    refine comp_map edgD (fun e => if decide (e.1 = f) = true then some (nI e.2) else none) A[i].es (Nat.le_trans (ok.le _ hsA) (by decide)) (fun _ _ => trivial) (fun e he h2 Q' fr2 q' => ?_) ?_
    · unfold m1_law_to
      simp? only [edgD]
      refine ⟨_, rfl, ?_⟩
      simp? only [true_and]
      by_cases c : e.1 = f
      · rw [if_pos (by simpa using c)] at q'
        simp? only [c]
        exact q'
      · rw [if_neg (by simpa using c)] at q'
        simp? only [c]
        exact q'
    · rw [filtM]
      simp? only [true_and]
      have sA : stepA A (some i) f = A[i].es.lookup f := by unfold stepA esAt; simp [hs]
      rw [sA] at q
      have fl := filt_look (es := A[i].es) (f := f)
      have ln := List.length_filter_le (fun e => decide (e.1 = f)) A[i].es
      have l20 := ok.le _ hsA
      refine ⟨by rw [List.length_map]; exact sz_le (by omega), ?_⟩
      generalize (A[i].es.filter fun e => decide (e.1 = f)).map (fun e => nI e.2) = xs at fl
      cases xs with
      | nil =>
        cases z : A[i].es.lookup f with
        | some j => rw [z] at fl; cases fl
        | none => rw [z] at q; exact ⟨_, rfl, q⟩
      | cons x xs =>
        cases z : A[i].es.lookup f with
        | none => rw [z] at fl; cases fl
        | some j =>
          rw [z] at q fl
          have : x = nI j := Option.some.inj fl
          subst this
          exact ⟨_, rfl, q⟩
theorem sh_strs {l : List Str} (f : FP l) (hl : l.length ≤ 100) : Sh (.tup (l.map D.str)) := by
  refine ⟨.tup fun x hx => ?_, ?_, ?_⟩
  · obtain ⟨s, hs, rfl⟩ := List.mem_map.mp hx
    exact .str _ (f.ok s hs).1
  · rw [wP]
    have := wps_le (b := 20) (xs := l.map D.str) fun x hx => by
      obtain ⟨s, hs, rfl⟩ := List.mem_map.mp hx
      have := (f.ok s hs).2
      rw [wP]; exact this
    rw [List.length_map] at this
    omega
  · rw [dP]
    have := dps_le (b := 10) (xs := l.map D.str) fun x hx => by
      obtain ⟨s, hs, rfl⟩ := List.mem_map.mp hx
      simp [dP]
    omega
theorem fields_right_run (ok : AutOk A) (fA : AutF A) {n : Nat} (k : Lst n L) {p : Addr} (d : DemA h p L) {o : Option Nat} (ko : OkO A o) (r : Rl L A o) {Q : D → DH → Prop} (q : ∀ h', Fr h h' → Q (.bl true) h') : (c_law_fields_right (.ref p) (autD A) (oD o)).run h Q E := by
  refine fg ?_
  unfold cb_law_fields_right
  simp? only [true_and]
  rw [ap1_e]
  refine alive_run ok fun fl lf hl h1 fr1 => ?_
  have d1 : DemA h1 p L := fr1.at_ d
  have rf := rl_fields k r
  have fp : FP ((lv A (esAt A o)).map (·.1)) := by
    rw [← rf]
    cases first L with
    | none => exact .nil
    | some i =>
      show FP ((((L[i]?).map (·.es)).getD []).map (·.1))
      cases z : L[i]? with
      | none => exact .nil
      | some s => exact k.f s (List.mem_of_getElem? z)
  have l20 : ((lv A (esAt A o)).map (·.1)).length ≤ 100 := by
    have h1 := (sub_fields A (esAt A o)).length_le
    rw [List.length_map (as := esAt A o)] at h1
    cases o with
    | none => simp [esAt] at h1; simp [esAt, h1]
    | some i =>
      have e : esAt A (some i) = ((A[i]?).map (·.es)).getD [] := rfl
      cases z : A[i]? with
      | none => rw [e, z] at h1 ⊢; simp at h1; simp [h1]
      | some s =>
        have := ok.le s (List.mem_of_getElem? z)
        rw [e, z] at h1 ⊢
        simp at h1 ⊢
        omega
  have be : ∀ {Q' : Unit → DH → Prop}, Q' () h1 → (beIns (Str.ofString "Demand") (.ref p)).run h1 Q' E := fun q' => ⟨_, d1, ⟨rfl, q'⟩⟩
  cases o with
  | none =>
    simp? only [oD]
    refine be ?_
    rw [ap1_e]
    refine fields_run k.ok d1 ?_
    rw [rf, fp.sort]
    refine repr_q2 (sh_strs fp l20) ?_
    have e : ((lv A (esAt A none)).map (·.1)).map D.str = [] := by unfold lv esAt; rfl
    rw [← e]
    refine repr_q2 (sh_strs fp l20) ?_
    rw [DL.ev_eq_s_t rfl]
    exact q h1 fr1
  | some i =>
    have li := ko i rfl
    have hs := List.getElem?_eq_getElem li
    have hsA := List.getElem_mem li
    have ge : (i : Int) ≥ 0 := by omega
    simp? only [oD, autD, ge]
    refine ⟨_, st_get hs, ?_⟩
    simp? only [Sta.d]
    refine comp_map edgD (fun e => if (fl[e.2]?).getD false = true then some (D.str e.1) else none) A[i].es (Nat.le_trans (ok.le _ hsA) (by decide)) (fun _ _ => trivial) (fun e he h2 Q' fr2 q' => ?_) ?_
    · have lte : e.2 < fl.length := by rw [lf]; exact ok.lt _ hsA e he
      have gfl : (fl.map blD)[e.2]? = some (blD ((fl[e.2]?).getD false)) := by rw [List.getElem?_map, List.getElem?_eq_getElem lte]; rfl
      unfold m1_law_fields_right
      simp? only [edgD]
      refine ⟨_, rfl, ?_⟩
      simp? only [true_and]
      refine ⟨_, gfl, ?_⟩
      simp? only [blD]
      cases c : (fl[e.2]?).getD false with
      | true => simp? only [true_and]; rw [c, if_pos rfl] at q'; exact q'
      | false => simp? only [true_and]; rw [c, if_neg (by simp)] at q'; exact q'
    · have te : (A[i].es.filterMap fun e => if (fl[e.2]?).getD false = true then some (D.str e.1) else none) = ((lv A (esAt A (some i))).map (·.1)).map D.str := by
        rw [show esAt A (some i) = A[i].es by unfold esAt; simp [hs], ← lv_filter (p := fun e => (fl[e.2]?).getD false) (fun e he => by
          rw [← hl]
          have gd : ∀ b : Nat, ((fl[b]?).getD false = true) ↔ fl[b]? = some true := fun b => by
            cases fl[b]? with
            | none => simp
            | some c => simp
          exact gd _), List.map_map]
        exact filtM A[i].es
      rw [te]
      simp? only [true_and]
      refine be ?_
      rw [ap1_e]
      refine fields_run k.ok d1 ?_
      rw [rf, fp.sort]
      refine repr_q2 (sh_strs fp l20) ?_
      refine repr_q2 (sh_strs fp l20) ?_
      rw [DL.ev_eq_s_t rfl]
      exact q h1 fr1
end
end K40
set_option maxHeartbeats 0
namespace K40
open PySem L2 DL
section
variable {A L : Aut} {h : DH} {E : EKt}
theorem eq4_cl {xs : List D} (o1 : PO (.cl xs)) (l1 : dP (.cl xs) ≤ 60) {Q : Bool → DH → Prop} (q : Q true h) : (opEq4 (.cl xs) (.cl xs)).run h Q E := by
  show (opEqL (.cl xs) (.cl xs)).run h Q E
  unfold opEqL
  simp only [if_true]
  exact ⟨_, _, (por o1).1, (por o1).1, po_shaped o1 l1, po_shaped o1 l1, by rw [eqv_same _ o1]; exact q⟩
abbrev PrT := Nat × Nat
def prD (x : PrT) : D := .tup [nI x.1, nI x.2]
theorem pr_inj (x y : PrT) (h : nk (prD x) = nk (prD y)) : x = y := by
  simp only [prD, nI, nk, nks, NestedKey.tup.injEq, List.cons.injEq, NestedKey.num.injEq, and_true] at h
  obtain ⟨h1, h2⟩ := h
  exact Prod.ext (by omega) (by omega)
theorem pr_depth (x : PrT) : (nk (prD x)).depth ≤ 8 := by
  simp [prD, nI, nk, nks, NestedKey.depthAll, NestedKey.depth]
def seenD (S : List PrT) : List (D × D) := S.map fun x => (prD x, .bl true)
theorem seen_find {S : List PrT} {x : PrT} : (findT (seenD S) (prD x)).isSome = decide (x ∈ S) := by
  unfold seenD
  rw [findT_map pr_inj (v := fun _ => D.bl true)]
  by_cases c : x ∈ S
  · rw [if_pos c, decide_eq_true c]; rfl
  · rw [if_neg c, decide_eq_false c]; rfl
theorem seen_put {S : List PrT} {x : PrT} (c : x ∉ S) : putT (seenD S) (prD x) (.bl true) = seenD (S ++ [x]) := by
  unfold seenD
  rw [putT_new pr_inj c, List.map_append]; rfl
structure SmI (L A : Aut) (S Wt : List PrT) : Prop where
  nd : S.Nodup
  bis : ∀ x ∈ S, Bis L A x.1 x.2
  sub : ∀ x ∈ Wt, x ∈ S
theorem SmI.len (I : SmI L A S Wt) : S.length ≤ L.length * A.length := by
  have := len_nd I.nd (b := (List.range L.length).flatMap fun i => (List.range A.length).map fun j => (i, j)) fun x hx => by
    obtain ⟨h1, h2⟩ := bis_some (I.bis x hx)
    exact List.mem_flatMap.mpr ⟨x.1, List.mem_range.mpr h1, List.mem_map.mpr ⟨x.2, List.mem_range.mpr h2, rfl⟩⟩
  have e : ∀ l : List Nat, (l.flatMap fun i => (List.range A.length).map fun j => (i, j)).length = l.length * A.length := fun l => by
    induction l with
    | nil => simp
    | cons a l ih => rw [List.flatMap_cons, List.length_append, ih, List.length_map, List.length_range, List.length_cons, Nat.succ_mul]; omega
  rw [e, List.length_range] at this
  exact this
theorem SmI.add (I : SmI L A S Wt) {x : PrT} (c : x ∉ S) (b : Bis L A x.1 x.2) : SmI L A (S ++ [x]) (Wt ++ [x]) := by
  refine ⟨?_, fun y hy => ?_, fun y hy => ?_⟩
  · rw [List.nodup_append]
    exact ⟨I.nd, by simp, fun a ha b hb e => c (by rw [List.mem_singleton.mp hb] at e; rw [← e]; exact ha)⟩
  · rcases List.mem_append.mp hy with z | z
    · exact I.bis y z
    · rw [List.mem_singleton.mp z]; exact b
  · rcases List.mem_append.mp hy with z | z
    · exact List.mem_append_left _ (I.sub y z)
    · exact List.mem_append_right _ z
def mu (S Wt : List PrT) : Nat := Wt.length + 2 * (10000 - S.length)
theorem l1_same_run (ok : AutOk A) (fA : AutF A) {n : Nat} (k : Lst n L) (n100 : n ≤ 99) {fl : List Bool} (lf : fl.length = A.length) (hl : ∀ i, fl[i]? = some true ↔ Live A i) {h0 : DH} {se wt : Addr} (ne : se ≠ wt) (n1 : h0 se = none) (n2 : h0 wt = none)
    {S Wt : List PrT} {x : PrT} (I : SmI L A S (Wt ++ [x])) (wl : mu S Wt ≤ 30000) (fr : Fr h0 h) (e1 : h se = some (.dT (seenD S))) (e2 : h wt = some (.lst ((Wt ++ [x]).map prD))) {Q : Fl Unit Unit → DH → Prop}
    (q : ∀ S' W' h', SmI L A S' W' → Fr h0 h' → h' se = some (.dT (seenD S')) → h' wt = some (.lst (W'.map prD)) → mu S' W' ≤ mu S Wt → Q (.nx ()) h') :
    (l1_law_is_same (.ref wt) (autD A) (.cl (fl.map blD)) (autD L) (.ref se) ()).run h Q E := by
  have bx := I.bis x (I.sub x (by simp))
  obtain ⟨s, t, hs, ht, he, ed⟩ := bis_at bx
  have hsL := List.mem_of_getElem? hs
  have htA := List.mem_of_getElem? ht
  rw [k.lv hsL] at ed
  unfold l1_law_is_same
  simp? only [true_and]
  refine ⟨⟨_, e2⟩, ?_⟩
  rw [List.map_append] at e2
  refine pop_lst e2 ?_
  intro h1 eh
  refine ⟨[nI x.1, nI x.2], rfl, ?_⟩
  simp? only [true_and]
  refine ixt_at (st_get ht) ?_
  simp? only [Sta.d]
  have lt20 := ok.le t htA
  have ls20 := k.ok.le s hsL
  refine comp_map edgD (fun e => if (fl[e.2]?).getD false = true then some (edgD e) else none) t.es (Nat.le_trans lt20 (by decide)) (fun _ _ => trivial) (fun e he h2 Q' fr2 q' => ?_) ?_
  · have lte : e.2 < fl.length := by rw [lf]; exact ok.lt t htA e he
    have gfl : (fl.map blD)[e.2]? = some (blD ((fl[e.2]?).getD false)) := by rw [List.getElem?_map, List.getElem?_eq_getElem lte]; rfl
    unfold m1_law_is_same
    simp? only [edgD]
    refine ⟨_, rfl, ?_⟩
    simp? only [true_and]
    refine ⟨_, gfl, ?_⟩
    simp? only [blD]
    cases c : (fl[e.2]?).getD false with
    | true => simp? only [true_and]; rw [c, if_pos rfl] at q'; exact q'
    | false => simp? only [true_and]; rw [c, if_neg (by simp)] at q'; exact q'
  have te : (t.es.filterMap fun e => if (fl[e.2]?).getD false = true then some (edgD e) else none) = (lv A t.es).map edgD := by
    rw [← lv_filter (p := fun e => (fl[e.2]?).getD false) (fun e he => by
      rw [← hl]
      have gd : ∀ b : Nat, ((fl[b]?).getD false = true) ↔ fl[b]? = some true := fun b => by
        cases fl[b]? with
        | none => simp
        | some c => simp
      exact gd _)]
    exact filtM t.es
  rw [te]
  have hsA2 : (L.map Sta.d)[x.1]? = some (D.tup [.bl s.ends, .tup (s.es.map edgD)]) := st_get hs
  have htA2 : (A.map Sta.d)[x.2]? = some (D.tup [.bl t.ends, .tup (t.es.map edgD)]) := st_get ht
  unfold autD nI
  simp? only [true_and]
  refine ⟨_, hsA2, ?_⟩
  simp? only [true_and]
  refine ⟨_, htA2, ?_⟩
  simp? only [true_and]
  rw [he]
  have nme : (s.es.filterMap fun e => some (D.str e.1)) = (s.es.map (·.1)).map D.str := by rw [List.map_map]; exact congrFun (List.filterMap_eq_map (f := fun e : Str × Nat => D.str e.1)) s.es
  have nmt : ((lv A t.es).filterMap fun e => some (D.str e.1)) = (s.es.map (·.1)).map D.str := by rw [ed.fields, List.map_map]; exact congrFun (List.filterMap_eq_map (f := fun e : Str × Nat => D.str e.1)) (lv A t.es)
  have fs : FP (s.es.map (·.1)) := k.f s hsL
  have ll : (lv A t.es).length ≤ 20 := by rw [← ed.len]; exact ls20
  rw [DL.ev_eq_b_t rfl]
  refine ⟨fun z => (by cases z), fun _ => ?_⟩
  refine ⟨_, hsA2, ?_⟩
  simp? only [true_and]
  refine comp_map edgD (fun e => some (D.str e.1)) s.es (Nat.le_trans ls20 (by decide)) (fun _ _ => trivial) (fun e _ h2 Q' fr2 q' => ?_) ?_
  · unfold m2_law_is_same
    simp? only [edgD]
    exact q'
  refine comp_map edgD (fun e => some (D.str e.1)) (lv A t.es) (Nat.le_trans ll (by decide)) (fun _ _ => trivial) (fun e _ h2 Q' fr2 q' => ?_) ?_
  · unfold m3_law_is_same
    simp? only [edgD]
    exact q'
  rw [nme, nmt]
  refine eq4_cl (.cl fun d hd => ?_) ?_ ?_
  · obtain ⟨y, hy, rfl⟩ := List.mem_map.mp hd
    exact .str _ (fs.ok y hy).1
  · rw [dP]
    have := dps_le (b := 10) (xs := (s.es.map (·.1)).map D.str) fun x hx => by
      obtain ⟨s, hs, rfl⟩ := List.mem_map.mp hx
      simp [dP]
    omega
  refine ⟨fun z => (by cases z), fun _ => ?_⟩
  refine ⟨_, hsA2, ?_⟩
  simp? only [true_and]
  have e1' : h1 se = some (.dT (seenD S)) := by rw [eh, DH.upd_ne ne]; exact e1
  have e2' : h1 wt = some (.lst (Wt.map prD)) := by rw [eh, DH.upd_same]
  have fr1 : Fr h0 h1 := by rw [eh]; exact FrX.put fr n2
  have zl : ∀ (i : Nat) (d : D), ((s.es.map edgD).zip ((lv A t.es).map edgD))[i]?.map (fun p : D × D => D.tup [p.1, p.2]) = some d → ∃ e e' : Str × Nat, d = .tup [edgD e, edgD e'] ∧ Bis L A e.2 e'.2 := by
    intro i d hd
    have key : ∀ (a b : List (Str × Nat)) (i : Nat) (d : D), EdR (Bis L A) a b → ((a.map edgD).zip (b.map edgD))[i]?.map (fun p : D × D => D.tup [p.1, p.2]) = some d → ∃ e e' : Str × Nat, d = .tup [edgD e, edgD e'] ∧ Bis L A e.2 e'.2 := by
      intro a b i d r
      induction r generalizing i with
      | nil => intro z; simp at z
      | @cons f x y a b r _ ih =>
        intro z
        cases i with
        | zero =>
          refine ⟨(f, x), (f, y), ?_, r⟩
          simpa using z.symm
        | succ i => exact ih i (by simpa using z)
    exact key _ _ i d ed hd
  have al := ok.len
  have kl := k.len
  refine run_for (fun i _ h' => ∃ S' W', SmI L A S' W' ∧ Fr h0 h' ∧ h' se = some (.dT (seenD S')) ∧ h' wt = some (.lst (W'.map prD)) ∧ mu S' W' ≤ mu S Wt)
    ⟨S, Wt, ⟨I.nd, I.bis, fun y hy => I.sub y (List.mem_append_left _ hy)⟩, fr1, e1', e2', Nat.le_refl _⟩ ?_ ?_
  · rintro i _ h2 d hd ⟨S', W', I2, fr2, g1, g2, m2⟩
    rw [List.getElem?_map] at hd
    obtain ⟨e, e', rfl, b⟩ := zl i d hd
    have sl : S'.length ≤ 9900 := Nat.le_trans I2.len (Nat.le_trans (Nat.mul_le_mul (Nat.le_trans kl n100) al) (by decide))
    refine ⟨trivial, ⟨_, rfl, ?_⟩⟩
    unfold l2_law_is_same
    simp? only [edgD]
    refine ⟨_, g1, ?_⟩
    refine ⟨⟨rfl, rfl, pr_depth (e.2, e'.2)⟩, ?_⟩
    rw [show D.tup [D.int (e.2 : Int), D.int (e'.2 : Int)] = prD (e.2, e'.2) from rfl]
    rw [seen_find]
    by_cases c : (e.2, e'.2) ∈ S'
    · rw [decide_eq_true c]
      refine ⟨fun z => (by cases z), fun _ => ⟨S', W', I2, fr2, g1, g2, m2⟩⟩
    · rw [decide_eq_false c]
      refine ⟨fun _ => ?_, fun z => (by cases z)⟩
      have lS : S'.length < sizeLine := Nat.lt_of_lt_of_le (show S'.length < 10000 by omega) (by decide)
      have lW : W'.length < sizeLine := Nat.lt_of_lt_of_le (show W'.length < 40000 by unfold mu at m2 wl; omega) (by decide)
      refine ⟨_, g1, rfl, pr_depth (e.2, e'.2), by unfold seenD; rw [List.length_map]; exact lS, ?_⟩
      have pt : putT (seenD S') (D.tup [nI e.2, nI e'.2]) (D.bl true) = seenD (S' ++ [(e.2, e'.2)]) := seen_put c
      show (_ : Prop)
      simp only [pt]
      have g2' : (h2.upd se (.dT (seenD (S' ++ [(e.2, e'.2)])))) wt = some (.lst (W'.map prD)) := by rw [DH.upd_ne (Ne.symm ne)]; exact g2
      refine ⟨⟨_, g2'⟩, _, g2', by rw [List.length_map]; exact lW, ?_⟩
      refine ⟨S' ++ [(e.2, e'.2)], W' ++ [(e.2, e'.2)], I2.add c b, FrX.put (FrX.put fr2 n1) n2, by rw [DH.upd_ne ne, DH.upd_same], by rw [DH.upd_same, List.map_append]; rfl, ?_⟩
      unfold mu at m2 ⊢
      rw [List.length_append, List.length_append, List.length_singleton]
      omega
  · rintro _ h2 ⟨S', W', I2, fr2, g1, g2, m2⟩
    refine ⟨trivial, ?_⟩
    simp? only [true_and]
    exact q S' W' h2 I2 fr2 g1 g2 m2
end
end K40
set_option maxHeartbeats 0
namespace K40
open PySem L2 DL
section
variable {A L : Aut} {h : DH} {E : EKt}
theorem is_same_run (ok : AutOk A) (fA : AutF A) {n : Nat} (k : Lst n L) (n100 : n ≤ 99) {o : Option Nat} (ko : OkO A o) (r : Rl L A o) {Q : D → DH → Prop} (q : ∀ h', Fr h h' → Q (.bl true) h') : (c_law_is_same (autD L) (autD A) (oD o)).run h Q E := by
  refine fg ?_
  unfold cb_law_is_same
  simp? only [true_and]
  rw [ap1_e]
  refine alive_run ok fun fl lf hl h1 fr1 => ?_
  rcases r with ⟨i, rfl, li, b⟩ | ⟨rfl, nl⟩
  · have lt0 := (bis_some b).1
    have ge : ¬ ((i : Int) < 0) := by omega
    have g0 : (fl.map blD)[i]? = some (.bl true) := by rw [List.getElem?_map, (hl i).mpr li]; rfl
    have ie : (L.map Sta.d).isEmpty = false := by
      cases L with
      | nil => cases lt0
      | cons _ _ => rfl
    simp? only [oD, ge, autD]
    refine ⟨_, g0, ?_⟩
    simp? only [ie]
    rw [ap1_e]
    refine of_run k.ok fun p L' h2 l' hp d fr2 => ?_
    have eL := k.self l'
    subst eL
    refine dem_fld d ?_
    have sh : Sh (autD L') := sh_aut k.ok k.f
    refine repr_q2 sh ?_
    refine (show ∃ p_1, PyQ h2 (autD L') p_1 ∧ _ from ?_)
    refine repr_q2 sh ?_
    rw [DL.ev_eq_s_t rfl]
    refine ⟨fun z => (by cases z), fun _ => ?_⟩
    intro se hse
    have gs0 : (h2.upd se (.dT [])) se = some (.dT []) := DH.upd_same
    refine ⟨[], gs0, rfl, rfl, pr_depth (0, i), by decide, ?_⟩
    have pt : putT [] (D.tup [D.int 0, D.int (i : Int)]) (.bl true) = seenD [(0, i)] := rfl
    rw [show (h2.upd se (.dT [])).upd se (.dT (putT [] (D.tup [D.int 0, D.int (i : Int)]) (.bl true))) = h2.upd se (.dT (seenD [(0, i)])) from by rw [pt]; exact fv_updupd]
    intro wt hwt
    have ne : se ≠ wt := new_ne hwt DH.upd_same
    have n1 : h2 se = none := hse
    have n2 : h2 wt = none := by rw [DH.upd_ne ne.symm] at hwt; exact hwt
    have al := ok.len
    have kl := k.len
    refine run_while (L := Unit) (fun m _ h' => ∃ S Wt, m = mu S Wt ∧ m ≤ 20003 ∧ SmI L' A S Wt ∧ Fr h2 h' ∧ h' se = some (.dT (seenD S)) ∧ h' wt = some (.lst (Wt.map prD))) (n := mu [(0, i)] [(0, i)])
      ⟨[(0, i)], [(0, i)], rfl, by unfold mu; simp, ⟨by simp, fun x hx => by rw [List.mem_singleton.mp hx]; exact b, fun x hx => hx⟩, FrX.put (FrX.new n1) n2, by rw [DH.upd_ne ne, DH.upd_same], DH.upd_same⟩ ?_
    rintro m _ h3 ⟨S, Wt, rfl, m3, I, fr3, e1, e2⟩
    simp? only [true_and]
    refine ⟨_, e2, ?_⟩
    simp? only [true_and]
    rcases List.eq_nil_or_concat Wt with z | ⟨ws, x, z⟩
    · subst z
      refine ⟨fun y => (nomatch y), fun _ => ?_⟩
      exact q h3 (fr1.trans (fr2.trans fr3))
    · have z' : Wt = ws ++ [x] := by simpa using z
      subst z'
      have nem : ((ws ++ [x]).map prD).isEmpty = false := by simp
      rw [nem]
      refine ⟨fun _ => ?_, fun y => by cases y⟩
      have mm : mu S ws < mu S (ws ++ [x]) := by unfold mu; rw [List.length_append, List.length_singleton]; omega
      refine l1_same_run ok fA k n100 lf hl ne n1 n2 I (by omega) fr3 e1 e2 fun S' W' h' I' fr' g1 g2 ms => ?_
      exact ⟨mu S' W', by omega, S', W', rfl, by omega, I', fr', g1, g2⟩
  · cases o with
    | none =>
      simp? only [oD, autD, List.isEmpty_nil]
      exact q h1 fr1
    | some i =>
      have n0 := nl i rfl
      have lif := ko i rfl
      have ge : ¬ ((i : Int) < 0) := by omega
      have g0 : (fl.map blD)[i]? = some (.bl false) := by
        have l2 : i < fl.length := by omega
        rw [List.getElem?_map, List.getElem?_eq_getElem l2]
        cases z : fl[i] with
        | false => rfl
        | true => exact absurd ((hl i).mp (by rw [List.getElem?_eq_getElem l2, z])) n0
      simp? only [oD, ge, autD, List.isEmpty_nil]
      refine ⟨_, g0, ?_⟩
      simp? only [true_and]
      refine ⟨_, g0, ?_⟩
      simp? only [true_and]
      exact q h1 fr1
end
end K40
set_option maxHeartbeats 0
namespace K40
open PySem L2 DL
theorem eq_nil {c : Addr} {cs : List Int} {h : DH} {Q : Bool → DH → Prop} {E : EKt} (hc : h c = some (.lst (cs.map D.int))) (q : Q cs.isEmpty h) : ∃ o, h c = some o ∧ (isE o).run h Q E := ⟨_, hc, by
  show Q (cs.map D.int).isEmpty h
  cases cs <;> exact q⟩
def deckL (c : Addr) (m k : Int) : List (Key × D) := [(.inr "cells", .ref c), (.inr "mixing", .int m), (.inr "draws", .int k)]
def Spr (p c : Addr) (n : Nat) (h : DH) : Prop := c ≠ p ∧ ∃ (cs : List Int) (m k : Int), h p = some (.dK (deckL c m k)) ∧ h c = some (.lst (cs.map D.int)) ∧ cs.length ≤ 63 ∧ 0 ≤ k ∧ k ≤ n
def At (p c : Addr) (a : Addr) : Prop := a = p ∨ a = c
theorem draw_run0 {p c : Addr} {n : Nat} {h : DH} {many : Int} {Q : D → DH → Prop} {E : EKt} (S : Spr p c n h) (hn : n < 2 ^ 60) (h0 : 0 < many) (hm : many < 1073741824)
    (k : ∀ h' (i : Nat), (i : Int) < many → Spr p c (n + 1) h' → FrX (At p c) h h' → Q (.int i) h') : (c_law_draw (.ref p) (.int many)).run h Q E := by
  obtain ⟨hc, cs, m, z, hp, hcs, hl, z0, zn⟩ := S
  have k' : ∀ h' (i : Int), 0 ≤ i → i < many → Spr p c (n + 1) h' → FrX (At p c) h h' → Q (.int i) h' := fun h' i a b S f => by
    obtain ⟨j, rfl⟩ := Int.eq_ofNat_of_zero_le a
    exact k h' j b S f
  refine fg ?_
  simp? only [cb_law_draw, hp]
  have e0 : findK (deckL c m z) (.inr "draws") = some (.int z) := rfl
  refine ⟨_, e0, ?_⟩
  simp? only [true_and]
  refine ⟨_, hp, ?_⟩
  refine ⟨.int m, rfl, ?_⟩
  refine ⟨_, hp, ?_⟩
  refine ⟨Nat.lt_of_le_of_lt (show 3 ≤ 1000 by omega) (by decide), ?_⟩
  have ep : putD (deckL c m z) (.inr "draws") (.int (z + 1)) = deckL c m (z + 1) := rfl
  rw [show putD (deckL c m z) (Sum.inr (Str.ofString "draws")) (.int (z + 1)) = deckL c m (z + 1) from ep]
  generalize e1 : h.upd p (.dK (deckL c m (z + 1))) = h1
  have p1 : h1 p = some (.dK (deckL c m (z + 1))) := by rw [← e1]; exact DH.upd_same
  have c1 : h1 c = some (.lst (cs.map D.int)) := by rw [← e1, DH.upd_ne hc]; exact hcs
  have f1 : FrX (At p c) h h1 := by rw [← e1]; exact FrX.putS FrX.refl (.inl rfl)
  have fin : ∀ x : Int, 0 ≤ x % many ∧ x % many < many := fun x => ⟨Int.emod_nonneg _ (by omega), Int.emod_lt_of_pos _ h0⟩
  have t1 : CMul 61253 (z + 1) := .inl ⟨by decide, by decide⟩
  have t2 : CMul (61253 * (z + 1)) (z + 1) := .inr ⟨by omega, by omega⟩
  have t3 : ∀ y : Int, CMul y 40692 := fun y => .inr ⟨by decide, by decide⟩
  have t4 : ∀ y : Int, CMul (y % 2147483647) (y % 2147483647) := fun y => .inl ⟨by omega, by omega⟩
  have t5 : ∀ y : Int, CMul 69779 y := fun y => .inl ⟨by decide, by decide⟩
  have t6 : ∀ y : Int, CMul y 39373 := fun y => .inr ⟨by decide, by decide⟩
  have t7 : ∀ y : Int, CDiv y 64 := fun y => ⟨by decide, by decide⟩
  refine ⟨_, p1, .ref c, rfl, eq_nil c1 ?_⟩
  rcases List.eq_nil_or_concat cs with e | ⟨cs', y, e⟩
  · subst e
    have S2 : Spr p c (n + 1) h1 := ⟨hc, [], m, z + 1, p1, c1, by decide, by omega, by omega⟩
    refine ⟨fun x => by simp at x, fun _ => ?_⟩
    simp? only [true_and]
    exact ⟨t1, t2, t3 _, t4 _, t5 _, t6 _, t7 _, h0, k' _ _ (fin _).1 (fin _).2 S2 f1⟩
  · subst e
    have hl' : cs'.length < 63 := by have := hl; simp at this; omega
    have c1' : h1 c = some (.lst (cs'.map D.int ++ [.int y])) := by rw [c1]; simp
    refine ⟨fun _ => ?_, fun x => by simp at x⟩
    refine ⟨_, p1, .ref c, rfl, ⟨_, c1⟩, pop_lst c1' fun h3 e3 => ?_⟩
    have p3 : h3 p = some (.dK (deckL c m (z + 1))) := by rw [e3, DH.upd_ne hc.symm]; exact p1
    have c3 : h3 c = some (.lst (cs'.map D.int)) := by rw [e3]; exact DH.upd_same
    have f3 : FrX (At p c) h h3 := by rw [e3]; exact FrX.putS f1 (.inr rfl)
    refine ⟨⟨by decide, by decide, by decide⟩, ?_⟩
    refine (show (decide (y ≥ 10 ^ 18) = true → _) ∧ (decide (y ≥ 10 ^ 18) = false → _) from ⟨fun _ => ?_, fun _ => ?_⟩)
    · refine ⟨_, p3, .ref c, rfl, ⟨_, c3⟩, ?_⟩
      refine ⟨⟨h0, hm⟩, ?_⟩
      simp? only [true_and]
      refine ⟨_, c3, by rw [List.length_map]; exact Nat.lt_trans hl' (by decide), ?_⟩
      generalize e4 : h3.upd c (.lst (cs'.map D.int ++ [.int (y / many)])) = h4
      have p4 : h4 p = some (.dK (deckL c m (z + 1))) := by rw [← e4, DH.upd_ne hc.symm]; exact p3
      have c4 : h4 c = some (.lst ((cs' ++ [y / many]).map D.int)) := by rw [← e4, DH.upd_same]; simp
      exact ⟨h0, k' _ _ (fin _).1 (fin _).2 ⟨hc, _, m, z + 1, p4, c4, by simp; omega, by omega, by omega⟩ (by rw [← e4]; exact FrX.putS f3 (.inr rfl))⟩
    · refine ⟨_, p3, .int m, rfl, ?_⟩
      simp? only [true_and]
      exact ⟨t1, t2, t3 _, t4 _, t5 _, t6 _, t7 _, h0, k' _ _ (fin _).1 (fin _).2 ⟨hc, _, m, z + 1, p3, c3, by omega, by omega, by omega⟩ f3⟩
end K40
set_option maxHeartbeats 0
namespace K40
open PySem L2 DL
def Dp (p c : Addr) (m : Nat) (h : DH) : Prop := ∃ n, Spr p c n h ∧ n + m ≤ 2 ^ 59
theorem Dp.le {p c : Addr} {m k : Nat} {h : DH} (S : Dp p c m h) (l : k ≤ m) : Dp p c k h := by
  obtain ⟨n, S, e⟩ := S
  exact ⟨n, S, by omega⟩
theorem Dp.keep {p c : Addr} {m : Nat} {h h1 : DH} (S : Dp p c m h) (fr : FrX (fun a => ¬ At p c a) h h1) : Dp p c m h1 := by
  obtain ⟨n, ⟨hc, cs, x, z, hp, hcs, r⟩, e⟩ := S
  exact ⟨n, ⟨hc, cs, x, z, fr p _ hp (fun y => y (.inl rfl)), fr c _ hcs (fun y => y (.inr rfl)), r⟩, e⟩
theorem Dp.fr {p c : Addr} {m : Nat} {h h1 : DH} (S : Dp p c m h) (fr : Fr h h1) : Dp p c m h1 := S.keep fun a o e _ => fr.at_ e
theorem Dp.new {p c : Addr} {m : Nat} {h : DH} {q : Addr} (S : Dp p c m h) (hq : h q = none) : ¬ At p c q := by
  obtain ⟨n, ⟨hc, cs, x, z, hp, hcs, r⟩, e⟩ := S
  rintro (e | e)
  · rw [e, hp] at hq; cases hq
  · rw [e, hcs] at hq; cases hq
theorem Dp.put {p c : Addr} {m : Nat} {h : DH} {q : Addr} {o : O} (S : Dp p c m h) (nq : ¬ At p c q) : Dp p c m (h.upd q o) :=
  S.keep fun a u e na => by
    have ne : a ≠ q := by rintro rfl; exact na nq
    rw [DH.upd_ne ne]; exact e
theorem Dp.del {p c : Addr} {m : Nat} {h : DH} {q : Addr} (S : Dp p c m h) (nq : ¬ At p c q) : Dp p c m (h.del q) :=
  S.keep fun a u e na => by
    have ne : a ≠ q := by rintro rfl; exact na nq
    rw [del_ne ne]; exact e
theorem none_frx {p c : Addr} {h h1 : DH} {q : Addr} (x : FrX (At p c) h h1) (nq : ¬ At p c q) (n : h1 q = none) : h q = none := by
  cases e : h q with
  | none => rfl
  | some o => rw [x q o e nq] at n; cases n
section
variable {p c : Addr} {h : DH} {E : EKt}
theorem draw_run {m : Nat} {many : Int} {Q : D → DH → Prop} (S : Dp p c (m + 1) h) (h0 : 0 < many) (hm : many < 1073741824)
    (k : ∀ (i : Nat), (i : Int) < many → ∀ h', Dp p c m h' → FrX (At p c) h h' → Q (.int i) h') : (c_law_draw (.ref p) (.int many)).run h Q E := by
  obtain ⟨n, S, e⟩ := S
  exact draw_run0 S (by omega) h0 hm fun h' i hi S' f => k i hi h' ⟨n + 1, S', by omega⟩ f
theorem pick_cl {m : Nat} {xs : List D} {Q : D → DH → Prop} (S : Dp p c (m + 1) h) (ne : xs ≠ []) (l : xs.length ≤ 1000) (k : ∀ d ∈ xs, ∀ h', Dp p c m h' → FrX (At p c) h h' → Q d h') : (c_law_pick (.ref p) (.cl xs)).run h Q E := by
  refine fg ?_
  unfold cb_law_pick
  simp? only [true_and]
  rw [ap2_e]
  have lp := List.length_pos_iff.mpr ne
  refine draw_run S (by omega) (by omega) fun i hi h' S' f => ?_
  have hi' : i < xs.length := by omega
  exact ixc_at (List.getElem?_eq_getElem hi') (k _ (List.getElem_mem hi') h' S' f)
theorem pick_tup {m : Nat} {xs : List D} {Q : D → DH → Prop} (S : Dp p c (m + 1) h) (ne : xs ≠ []) (l : xs.length ≤ 1000) (k : ∀ d ∈ xs, ∀ h', Dp p c m h' → FrX (At p c) h h' → Q d h') : (c_law_pick (.ref p) (.tup xs)).run h Q E := by
  refine fg ?_
  unfold cb_law_pick
  simp? only [true_and]
  rw [ap2_e]
  have lp := List.length_pos_iff.mpr ne
  refine draw_run S (by omega) (by omega) fun i hi h' S' f => ?_
  have hi' : i < xs.length := by omega
  exact ixt_at (List.getElem?_eq_getElem hi') (k _ (List.getElem_mem hi') h' S' f)
end
theorem deck_run {ns : List Int} (hl : ns.length ≤ 63) {h : DH} {Q : D → DH → Prop} {E : EKt} (k : ∀ p c h', Dp p c 100000 h' → Q (.ref p) h') : (c_law_deck (.cl (ns.map D.int))).run h Q E := by
  refine fg ?_
  unfold cb_law_deck
  simp? only [true_and]
  have ec : cutD (ns.map D.int) none (some 63) = ns.map D.int := by
    unfold cutD
    simp only [HT.sIx, List.drop_zero, List.length_map]
    rw [if_neg (by decide), show min (63 : Int).toNat ns.length = ns.length from Nat.min_eq_right hl, Nat.sub_zero]
    exact List.take_of_length_le (by rw [List.length_map]; exact Nat.le_refl _)
  rw [ec]
  refine run_for (fun t c h' => ∃ m : Int, c = .int m ∧ h' = h) ⟨61253, rfl, rfl⟩ ?_ ?_
  · rintro t _ _ x hx ⟨m, rfl, rfl⟩
    rw [List.getElem?_map] at hx
    obtain ⟨v, _, rfl⟩ := Option.map_eq_some_iff.mp hx
    refine ⟨trivial, ?_⟩
    simp? only [l1_law_deck]
    exact ⟨.inr ⟨by decide, by decide⟩, _, rfl⟩
  · rintro _ _ ⟨m, rfl, rfl⟩
    refine ⟨trivial, ?_⟩
    simp? only [true_and]
    unfold eDisp
    intro p hp
    simp? only [ePairs]
    refine ⟨ns.map D.int, rfl, fun c hc => ?_⟩
    have ne : c ≠ p := by rintro rfl; rw [DH.upd_same] at hc; cases hc
    refine ⟨_, rfl, _, rfl, _, rfl, by rw [DH.upd_ne ne.symm, DH.upd_same], by decide, ?_⟩
    refine k p c _ ⟨0, ⟨ne, ns.reverse, m, 0, DH.upd_same, ?_, by rw [List.length_reverse]; exact hl, by decide, by decide⟩, by decide⟩
    rw [DH.upd_ne ne, DH.upd_same, List.map_reverse]
end K40
set_option maxHeartbeats 0
namespace K40
open PySem L2 DL
def wordsL : List Str := ["end", "next", "made", "none", "on", "t0", "head", "cell", "number", "jump"]
def letters : Str := "abcdefghijklmnopqrstuvwxyz"
def nmW (a k : Nat) : Str := wordsL.getD ((a + 3 * k) % 10) ""
def letD (i : Nat) : Str := ((letters.cps.toList[i]?).map fun c => (⟨#[c]⟩ : Str)).getD ""
def nmS (st : Str) (w a k : Nat) : Str := (cutS st none (some (w : Int)) ++ letD ((a + 5 * k) % 26)) ++ cutS st (some (w : Int)) none
def okN (l : List Str) : Bool := decide l.Nodup && l.all fun x => PyData.strOk x && decide (x.length ≤ 20)
theorem names_w : ∀ a : Fin 26, okN ((List.range 5).map (nmW a.val)) = true := by decide +kernel
theorem names_s : ∀ st ∈ ([("" : Str), "lists", "no1no1n"] : List Str), ∀ w : Fin 8, ∀ a : Fin 26, okN ((List.range 5).map (nmS st w.val a.val)) = true := by decide +kernel
structure NmOk (l : List Str) : Prop where
  nd : l.Nodup
  ok : ∀ x ∈ l, PyData.strOk x = true ∧ x.length ≤ 20
theorem okN_ok {l : List Str} (h : okN l = true) : NmOk l := by
  unfold okN at h
  rw [Bool.and_eq_true, decide_eq_true_eq, List.all_eq_true] at h
  exact ⟨h.1, fun x hx => by have := h.2 x hx; rw [Bool.and_eq_true, decide_eq_true_eq] at this; exact this⟩
theorem NmOk.sub {l m : List Str} (f : NmOk m) (s : l.Sublist m) : NmOk l := ⟨f.nd.sublist s, fun x hx => f.ok x (s.subset hx)⟩
theorem nm_pre {f : Nat → Str} {n : Nat} (h : okN ((List.range 5).map f) = true) (hn : n ≤ 5) : NmOk ((List.range n).map f) := (okN_ok h).sub ((List.range_sublist.mpr hn).map f)
end K40
set_option maxHeartbeats 0
namespace K40
open PySem L2 DL
theorem rng_nI (n : Nat) : (sRng 0 n 1).xs = (List.range n).map nI := by
  show rng 0 n 1 = _
  unfold rng
  refine List.map_congr_left fun i _ => ?_
  unfold nI
  simp
theorem cut_len : ∀ st ∈ ([("" : Str), "lists", "no1no1n"] : List Str), ∀ w : Fin 8, st.length ≤ 7 ∧ (cutS st none (some ((w.val : Nat) : Int))).length ≤ 7 ∧ (cutS st (some ((w.val : Nat) : Int)) none).length ≤ 7 := by decide +kernel
theorem let_len : letters.cps.toList.length = 26 := by decide +kernel
theorem let_at {i : Nat} (hi : i < 26) : ∃ ch, letters.cps.toList[i]? = some ch ∧ letD i = ⟨#[ch]⟩ := by
  have g := List.getElem?_eq_getElem (l := letters.cps.toList) (i := i) (by rw [let_len]; exact hi)
  exact ⟨_, g, by unfold letD; rw [g]; rfl⟩
theorem app_len (a b : Str) : (a ++ b).length = a.length + b.length := by
  show (a.cps ++ b.cps).size = _
  rw [Array.size_append]; rfl
section
variable {p c : Addr} {h : DH} {E : EKt}
theorem names_run {m n : Nat} (hn : n ≤ 5) {Q : D → DH → Prop} (S : Dp p c (m + 4) h) (q : ∀ ns h', ns.length = n → NmOk ns → Dp p c m h' → FrX (At p c) h h' → Q (.cl (ns.map D.str)) h') : (c_law_names (.ref p) (.int (n : Int))).run h Q E := by
  refine fg ?_
  unfold cb_law_names
  simp? only [true_and]
  rw [ap2_e]
  refine draw_run (m := m + 3) S (by decide) (by decide) fun a ha h1 S1 f1 => ?_
  rw [ap2_e]
  refine draw_run (m := m + 2) S1 (by decide) (by decide) fun w hw h2 S2 f2 => ?_
  simp? only [true_and]
  have bd : (-2 ^ 62 ≤ (n : Int) ∧ (n : Int) < 2 ^ 62) := by omega
  have lr : (List.range n).length ≤ sizeLine := by rw [List.length_range]; exact sz_le (by omega)
  have la : a < 26 := by omega
  by_cases c0 : (w : Int) = 0
  · rw [DL.ev_eq_i_t c0]
    refine ⟨fun _ => ?_, fun z => (by cases z)⟩
    refine ⟨bd, ?_⟩
    rw [rng_nI]
    refine comp_map nI (fun k => some (.str (nmW a k))) (List.range n) lr (fun _ _ => trivial) (fun k hk h3 Q' _ q' => ?_) ?_
    · unfold m1_law_names nI
      simp? only [true_and]
      refine ⟨.inl ⟨by decide, by decide⟩, ?_⟩
      have lt10 : (a + 3 * k) % 10 < 10 := Nat.mod_lt _ (by decide)
      have ei : ((a : Int) + 3 * (k : Int)) % 10 = (((a + 3 * k) % 10 : Nat) : Int) := by omega
      have ew : (wordsL.map D.str)[(a + 3 * k) % 10]? = some (.str (nmW a k)) := by
        unfold nmW
        rw [List.getElem?_map, List.getElem?_eq_getElem (show (a + 3 * k) % 10 < wordsL.length from lt10), List.getD_eq_getElem?_getD, List.getElem?_eq_getElem (show (a + 3 * k) % 10 < wordsL.length from lt10)]
        rfl
      rw [ei]
      refine ⟨.str (nmW a k), ?_, q'⟩
      rw [DL.atI_nat]
      exact ew
    · rw [show ((List.range n).filterMap fun k => some (D.str (nmW a k))) = ((List.range n).map (nmW a)).map D.str by rw [List.map_map]; exact congrFun (List.filterMap_eq_map (f := fun k => D.str (nmW a k))) _]
      exact q _ h2 (by simp) (nm_pre (names_w ⟨a, la⟩) hn) (S2.le (by omega)) (f1.trans f2)
  · rw [DL.ev_eq_i_f c0]
    refine ⟨fun z => (by cases z), fun _ => ?_⟩
    rw [ap2_e]
    refine pick_cl (m := m + 1) S2 (by simp) (by simp) fun d hd h3 S3 f3 => ?_
    have hst : ∃ st ∈ ([("" : Str), "lists", "no1no1n"] : List Str), d = .str st := by
      rcases List.mem_cons.mp hd with rfl | hd
      · exact ⟨_, by simp, rfl⟩
      · rcases List.mem_cons.mp hd with rfl | hd
        · exact ⟨_, by simp, rfl⟩
        · rw [List.mem_singleton] at hd
          exact ⟨_, by simp, hd⟩
    obtain ⟨st, hst, rfl⟩ := hst
    have rest : ∀ st' ∈ ([("" : Str), "lists", "no1no1n"] : List Str), (c_law_draw (.ref p) (.int 8)).run h3 (fun a_5 h' => (-2 ^ 62 ≤ (n : Int) ∧ (n : Int) < 2 ^ 62) ∧ (W.new (.lst [])).run h' (fun a_6 h' => (compW (sRng 0 n 1).chk (fun d => uP Pat.nm d fun ds14 => m2_law_names (.str st') a_5 (D.str (Str.ofString "abcdefghijklmnopqrstuvwxyz")) (D.int (a : Int)) (ds14.getD 0 D.non)) a_6 (sRng 0 n 1).xs).run h' (fun a h' => (frzQ a_6).run h' (fun a h' => Q a h') E) E) E) E := by
      intro st' hst'
      refine draw_run (m := m) S3 (by decide) (by decide) fun w2 hw2 h4 S4 f4 => ?_
      refine ⟨bd, ?_⟩
      rw [rng_nI]
      refine comp_map nI (fun k => some (.str (nmS st' w2 a k))) (List.range n) lr (fun _ _ => trivial) (fun k hk h3 Q' _ q' => ?_) ?_
      · unfold m2_law_names nI
        simp? only [true_and]
        obtain ⟨l1, l2, l3⟩ := cut_len st' hst' ⟨w2, by omega⟩
        have l1 : st'.length ≤ 7 := l1
        have l2 : (cutS st' none (some (w2 : Int))).length ≤ 7 := l2
        have l3 : (cutS st' (some (w2 : Int)) none).length ≤ 7 := l3
        have lt26 : (a + 5 * k) % 26 < 26 := Nat.mod_lt _ (by decide)
        obtain ⟨ch, e1, e2⟩ := let_at lt26
        have ei : ((a : Int) + 5 * (k : Int)) % 26 = (((a + 5 * k) % 26 : Nat) : Int) := by omega
        have ll : letters.length ≤ sizeLine := by rw [show letters.length = 26 by decide +kernel]; decide
        refine ⟨sz_le (by omega), .inl ⟨by decide, by decide⟩, ll, ?_⟩
        rw [ei, DL.atI_nat]
        refine ⟨.str (letD ((a + 5 * k) % 26)), ?_, ?_⟩
        · rw [e2]
          show (letters.cps.toList[(a + 5 * k) % 26]?).map _ = _
          rw [e1]; rfl
        · have l4 : (letD ((a + 5 * k) % 26)).length = 1 := by rw [e2]; rfl
          simp? only [true_and]
          refine ⟨sz_le (by omega), sz_le (by omega), ?_, q'⟩
          rw [app_len]
          exact sz_le (by omega)
      · rw [show ((List.range n).filterMap fun k => some (D.str (nmS st' w2 a k))) = ((List.range n).map (nmS st' w2 a)).map D.str by rw [List.map_map]; exact congrFun (List.filterMap_eq_map (f := fun k => D.str (nmS st' w2 a k))) _]
        exact q _ h4 (by simp) (nm_pre (names_s st' hst' ⟨w2, by omega⟩ ⟨a, la⟩) hn) S4 (((f1.trans f2).trans f3).trans f4)
    by_cases c1 : (w : Int) = 1
    · rw [DL.ev_eq_i_t c1]
      refine ⟨.inr rfl, ?_⟩
      exact rest st hst
    · rw [DL.ev_eq_i_f c1]
      refine ⟨.inl rfl, ?_⟩
      exact rest "" (by simp)
end
end K40
set_option maxHeartbeats 0
namespace K40
open PySem L2 DL
section
variable {p c : Addr} {h : DH} {E : EKt}
theorem sort_fp {ns : List Str} (k : NmOk ns) : FP (sortS ns) ∧ (sortS ns).Nodup := by
  have pm := sortS_perm ns
  refine ⟨⟨fun x hx => k.ok x (pm.mem_iff.mp hx), ?_⟩, pm.nodup_iff.mpr k.nd⟩
  exact List.pairwise_mergeSort (fun a b c h1 h2 => leS_trans a b c h1 h2) (fun a b => leS_total a b) ns
structure RowO (ns : List Str) (N : Nat) (es : List (Str × Nat)) : Prop where
  sub : (es.map (·.1)).Sublist ns
  lt : ∀ e ∈ es, e.2 < N
theorem row_run {m N : Nat} (hN : 0 < N) (N7 : N ≤ 7) {pr : Addr} {S0 : List Str} (l5 : S0.length ≤ 5) {h0 : DH} (n0 : h0 pr = none) (np : ¬ At p c pr) (S : Dp p c (m + 2 * S0.length) h) (f : FrX (At p c) h0 h) (e : h pr = some (.lst [])) {Q : Fl Unit Unit → DH → Prop}
    (q : ∀ es h', RowO S0 N es → Dp p c m h' → FrX (At p c) h0 h' → (∀ a o, h a = some o → ¬ At p c a → a ≠ pr → h' a = some o) → h' pr = some (.lst (es.map edgD)) → Q (.nx ()) h') :
    (forW (fun _ => True) (fun d c => uP (.nm) d fun ds12 => l2_law_automaton (.ref p) (.ref pr) (.int (N : Int)) (ds12.getD 0 .non) c) (S0.map D.str) ()).run h Q E := by
  refine run_for (fun i _ h' => ∃ es, RowO (S0.take i) N es ∧ i ≤ S0.length ∧ Dp p c (m + 2 * (S0.length - i)) h' ∧ FrX (At p c) h0 h' ∧ (∀ a o, h a = some o → ¬ At p c a → a ≠ pr → h' a = some o) ∧ h' pr = some (.lst (es.map edgD)) ∧ es.length ≤ i)
    ⟨[], ⟨.slnil, fun x hx => (nomatch hx)⟩, Nat.zero_le _, S, f, fun a o z _ _ => z, e, Nat.le_refl _⟩ ?_ ?_
  · rintro i _ h2 x hx ⟨es, R, il, S2, f2, k2, e2, el⟩
    rw [List.getElem?_map] at hx
    obtain ⟨nm, hn, rfl⟩ := Option.map_eq_some_iff.mp hx
    have li := (List.getElem?_eq_some_iff.mp hn).1
    have tk : S0.take (i + 1) = S0.take i ++ [nm] := take_one hn
    refine ⟨trivial, ?_⟩
    unfold l2_law_automaton
    simp? only [true_and]
    rw [ap2_e]
    refine draw_run (m := m + 2 * (S0.length - (i + 1)) + 1) (S2.le (by omega)) (by decide) (by decide) fun a ha h3 S3 f3 => ?_
    by_cases c2 : (a : Int) < 2
    · rw [DL.ev_lt_t c2]
      refine ⟨fun _ => ?_, fun z => (by cases z)⟩
      have e3 := f3 _ _ e2 np
      refine ⟨⟨_, e3⟩, ?_⟩
      rw [ap2_e]
      refine draw_run (m := m + 2 * (S0.length - (i + 1))) S3 (by omega) (by omega) fun b hb h4 S4 f4 => ?_
      have e4 := f4 _ _ e3 np
      refine ⟨_, e4, Nat.lt_of_lt_of_le (by rw [List.length_map]; show es.length < 10000; omega) (sz_le (Nat.le_refl _)), ?_⟩
      refine ⟨es ++ [(nm, b)], ⟨?_, fun x hx => ?_⟩, li, S4.put np, FrX.put ((f2.trans f3).trans f4) n0, fun a' o z1 z2 z3 => ?_, by rw [DH.upd_same, List.map_append]; rfl, by rw [List.length_append, List.length_singleton]; omega⟩
      · rw [tk, List.map_append]
        exact R.sub.append (List.Sublist.refl _)
      · rcases List.mem_append.mp hx with z | z
        · exact R.lt x z
        · rw [List.mem_singleton.mp z]; show b < N; omega
      · rw [DH.upd_ne z3]
        exact f4 _ _ (f3 _ _ (k2 a' o z1 z2 z3) z2) z2
    · rw [DL.ev_lt_f c2]
      refine ⟨fun z => (by cases z), fun _ => ?_⟩
      refine ⟨es, ⟨by rw [tk]; exact R.sub.trans (List.sublist_append_left _ _), R.lt⟩, li, S3.le (by omega), f2.trans f3, fun a' o z1 z2 z3 => f3 _ _ (k2 a' o z1 z2 z3) z2, f3 _ _ e2 np, by omega⟩
  · rintro _ h2 ⟨es, R, il, S2, f2, k2, e2, el⟩
    refine ⟨trivial, ?_⟩
    rw [List.length_map] at *
    rw [List.take_length] at R
    exact q es h2 R (S2.le (by omega)) f2 k2 e2
end
end K40
set_option maxHeartbeats 0
namespace K40
open PySem L2 DL
section
variable {p c : Addr} {h : DH} {E : EKt}
theorem automaton_run {m : Nat} {ns : List Str} (k : NmOk ns) (l5 : ns.length ≤ 5) (S : Dp p c (m + 100) h) {Q : D → DH → Prop}
    (q : ∀ A h', AutOk A → AutF A → A.length ≤ 7 → Dp p c m h' → FrX (At p c) h h' → Q (autD A) h') : (c_law_automaton (.ref p) (.cl (ns.map D.str)) (.int 7)).run h Q E := by
  obtain ⟨fp, nd⟩ := sort_fp k
  have sl : (sortS ns).length ≤ 5 := by rw [(sortS_perm ns).length_eq]; exact l5
  refine fg ?_
  unfold cb_law_automaton
  simp? only [true_and]
  rw [ap2_e]
  refine draw_run (m := m + 99) S (by decide) (by decide) fun N hN h1 S1 f1 => ?_
  have hN7 : N ≤ 7 := by omega
  intro fd hfd
  have nfd : ¬ At p c fd := S1.new hfd
  refine ⟨by omega, ?_⟩
  simp only [sRng]
  refine run_for (fun i _ h' => ∃ A : Aut, A.length = i ∧ i ≤ N ∧ (∀ s ∈ A, RowO (sortS ns) N s.es) ∧ Dp p c (m + 11 * (N - i)) h' ∧ FrX (At p c) h1 h' ∧ h' fd = some (.lst (A.map Sta.d)))
    ⟨[], rfl, Nat.zero_le _, fun s hs => (nomatch hs), (S1.put nfd).le (by omega), FrX.new hfd, DH.upd_same⟩ ?_ ?_
  · rintro i _ h2 x hx ⟨A, al, il, R, S2, f2, e2⟩
    obtain ⟨li, rfl⟩ := rng_inv hx
    have li : i < N := by simpa using li
    refine ⟨trivial, ?_⟩
    unfold l1_law_automaton
    simp? only [true_and]
    intro pr hpr
    have np : ¬ At p c pr := S2.new hpr
    have ne : fd ≠ pr := new_ne hpr e2
    refine ⟨_, strsD_map _, ?_⟩
    simp? only [true_and]
    have npr1 : h1 pr = none := none_frx f2 np hpr
    refine row_run (m := m + 11 * (N - (i + 1)) + 1) (N := N) (by omega) hN7 sl (h0 := h1) npr1 np ((S2.put np).le (by omega)) (FrX.put f2 npr1) DH.upd_same fun es h3 R3 S3 f3 k3 e3 => ?_
    have g3 : h3 fd = some (.lst (A.map Sta.d)) := k3 _ _ (by rw [DH.upd_ne ne]; exact e2) nfd ne
    simp? only [true_and]
    refine ⟨⟨_, g3⟩, ?_⟩
    rw [ap2_e]
    refine draw_run (m := m + 11 * (N - (i + 1))) S3 (by decide) (by decide) fun b hb h4 S4 f4 => ?_
    have g4 := f4 _ _ g3 nfd
    have p4 := f4 _ _ e3 np
    have fin : ∀ bb : Bool, ∃ xs, h4 fd = some (.lst xs) ∧ xs.length < sizeLine ∧ ∃ A : Aut, A.length = i + 1 ∧ i + 1 ≤ N ∧ (∀ s ∈ A, RowO (sortS ns) N s.es) ∧ Dp p c (m + 11 * (N - (i + 1))) (h4.upd fd (.lst (xs ++ [D.tup [.bl bb, .tup (es.map edgD)]]))) ∧ FrX (At p c) h1 (h4.upd fd (.lst (xs ++ [D.tup [.bl bb, .tup (es.map edgD)]]))) ∧ (h4.upd fd (.lst (xs ++ [D.tup [.bl bb, .tup (es.map edgD)]]))) fd = some (.lst (A.map Sta.d)) := by
      intro bb
      refine ⟨_, g4, Nat.lt_of_lt_of_le (by rw [List.length_map]; show A.length < 10000; omega) (sz_le (Nat.le_refl _)), ?_⟩
      refine ⟨A ++ [⟨bb, es⟩], by rw [List.length_append, al]; rfl, li, fun s hs => ?_, S4.put nfd, FrX.put ((f3).trans f4) (none_frx FrX.refl nfd hfd), by rw [DH.upd_same, List.map_append]; rfl⟩
      rcases List.mem_append.mp hs with z | z
      · exact R s z
      · rw [List.mem_singleton.mp z]; exact R3
    by_cases c0 : (b : Int) = 0
    · rw [DL.fw_eq4i, DL.ev_eq_i_t c0]
      refine ⟨_, p4, ?_⟩
      exact fin true
    · rw [DL.fw_eq4i, DL.ev_eq_i_f c0]
      refine ⟨_, p4, ?_⟩
      exact fin false
  · rintro _ h2 ⟨A, al, il, R, S2, f2, e2⟩
    rw [rng_len] at *
    have lN : N = A.length := by rw [al]; simp
    refine ⟨trivial, ?_⟩
    simp? only [true_and]
    refine ⟨_, e2, ?_⟩
    simp? only [true_and]
    refine q A _ ⟨fun s hs e he => by rw [← lN]; exact (R s hs).lt e he, fun s hs => nd.sublist (R s hs).sub, fun s hs => ?_, by omega⟩ (fun s hs => fp.sub (R s hs).sub) (by omega) ((S2.del nfd).le (by omega)) (frx_del (f1.trans f2) (none_frx f1 nfd hfd))
    have := (R s hs).sub.length_le
    rw [List.length_map] at this
    omega
end
end K40
set_option maxHeartbeats 0
namespace K40
open PySem L2 DL
def tlR (v2__law_states : D) (v1__law_one : D) (q8 : D × D × D) (q12 : D) : W (Fl (D × D × D) (D × D × D)) := (eMethC "Demand" "behind" (ap2 c_Demand_behind) (W.pure q8.2.1) [W.pure q12]).bind fun v14_found => (eCall (ap3 c_law_to) [W.pure v2__law_states, W.pure q8.1, W.pure q12]).bind fun v15_at => (e2 opAddF3 (W.pure q8.2.2) (eTup [W.pure q12])).bind fun v16_word => sThen (wIte (wOr (wNot (((W.pure v14_found).bind (bIsiOwn "Demand")).bind opTru)) (wNot ((eCall (ap3 c_law_is_same) [(W.pure v14_found).bind (opFld ["Demand"] "automaton"), W.pure v2__law_states, W.pure v15_at]).bind opTru))) (sRt (W.pure (D.bl false))) (sNx ())) fun q17 => wIte (wOr (wNot ((eCall (ap3 c_law_fields_right) [W.pure v14_found, W.pure v2__law_states, W.pure v15_at]).bind opTru)) (c2 opNe4 (vB (c2 (opInOwn "Demand" (ap2 c_Demand_contains)) (W.pure v16_word) (W.pure v1__law_one))) (vB (c2 (opInOwn "Demand" (ap2 c_Demand_contains)) (eTup []) (W.pure v14_found))))) (sRt (W.pure (D.bl false))) (sNx (v15_at, v14_found, v16_word))
theorem l1_row_eq (v0__law_deck_here : D) (v3__law_names_here : D) (v2__law_states : D) (v1__law_one : D) (t9_turn : D) (q8 : D × D × D) : l1_law_row_right v0__law_deck_here v3__law_names_here v2__law_states v1__law_one t9_turn q8 = (eCall (ap2 c_law_pick) [W.pure v0__law_deck_here, W.pure v3__law_names_here]).bind fun v11_name => sThen (wIte (wAnd (c2 opGe (W.pure q8.1) (W.pure (D.int 0))) (wAnd (c2 opNe4 (e2 opIx2 (e2 opIx2 (W.pure v2__law_states) (W.pure q8.1)) (W.pure (D.int 1))) (eTup [])) (c2 opGt (eCall (ap2 c_law_draw) [W.pure v0__law_deck_here, W.pure (.int 3)]) (W.pure (D.int 0))))) ((e2 opIx2 (eCall (ap2 c_law_pick) [W.pure v0__law_deck_here, e2 opIx2 (e2 opIx2 (W.pure v2__law_states) (W.pure q8.1)) (W.pure (D.int 1))]) (W.pure (D.int 0))).bind fun v13_name => sNx v13_name) (sNx v11_name)) (tlR v2__law_states v1__law_one q8) := rfl
section
variable {p c : Addr} {h : DH} {E : EKt} {A L : Aut}
theorem in_run (ok : AutOk L) {p : Addr} (d : DemA h p L) {w : List Str} {Q : Bool → DH → Prop} (q : Q (endAt L (behA L w)) h) : (opInOwn (Str.ofString "Demand") (ap2 c_Demand_contains) (.tup (w.map D.str)) (.ref p)).run h Q E := by
  refine ⟨_, d, ⟨rfl, ?_⟩⟩
  show (ap2 c_Demand_contains [D.ref p, .tup (w.map D.str)]).run h _ E
  rw [ap2_e]
  refine contains_run ok d ?_
  exact q
theorem rootO_ok (ok : AutOk L) {o : Option Nat} (k : OkO L o) (l : L.length < 100) : AutOk (rootO L o) ∧ (rootO L o).length ≤ L.length + 1 := by
  cases o with
  | none => exact ⟨⟨fun s hs => (nomatch hs), fun s hs => (nomatch hs), fun s hs => (nomatch hs), by simp [rootO]⟩, by simp [rootO]⟩
  | some i => exact ⟨root_ok ok (k i rfl) l, by show (rootA L i).length ≤ _; rw [root_len (k i rfl)]; exact Nat.le_refl _⟩
theorem tl_run (ok : AutOk A) (fA : AutF A) {n m : Nat} (n90 : n ≤ 90) {p1 pf : Addr} {L1 Lf : Aut} (k1 : Lst 90 L1) (kf : Lst n Lf) (d1 : DemA h p1 L1) (df : DemA h pf Lf) (S : Dp p c m h)
    {o : Option Nat} (ko : OkO A o) (r : Rl Lf A o) {w : List Str} (ew : Rp L1 A (behA L1 w) o) (wl : w.length ≤ 20) (f : Str) {Q : Fl (D × D × D) (D × D × D) → DH → Prop}
    (q : ∀ pf' Lf' h', ¬ At p c pf' → Lst (n + 1) Lf' → DemA h' p1 L1 → DemA h' pf' Lf' → Dp p c m h' → Fr h h' → OkO A (stepA A o f) → Rl Lf' A (stepA A o f) → Rp L1 A (behA L1 (w ++ [f])) (stepA A o f) → Q (.nx (oD (stepA A o f), .ref pf', .tup ((w ++ [f]).map D.str))) h') :
    (tlR (autD A) (.ref p1) (oD o, .ref pf, .tup (w.map D.str)) (.str f)).run h Q E := by
  have lf100 : Lf.length < 100 := by have := kf.len; omega
  have ko' : OkO A (stepA A o f) := step_ok ok
  have ew' : Rp L1 A (behA L1 (w ++ [f])) (stepA A o f) := by
    unfold behA at ew ⊢
    rw [List.foldl_append]
    exact rp_step ok k1 ew f
  unfold tlR
  simp? only [true_and]
  refine ⟨_, df, ⟨rfl, rfl, ?_⟩⟩
  show (ap2 c_Demand_behind [D.ref pf, D.str f]).run h _ E
  rw [ap2_e]
  refine behind_run kf.ok lf100 df fun pf' Lf' h' l' hp' d' fr => ?_
  have stL : OkO Lf (stepA Lf (first Lf) f) := step_ok kf.ok
  obtain ⟨okr, lnr⟩ := rootO_ok kf.ok stL lf100
  have kf' : Lst (n + 1) Lf' := Lst.mk_ l' okr (root_fp kf.f _) (by have := kf.len; omega)
  have r' : Rl Lf' A (stepA A o f) := rl_step ok (n := n) (by omega) kf ko r f l'
  have d1' : DemA h' p1 L1 := fr.at_ d1
  rw [ap3_e]
  refine to_run ok ko ?_
  refine ⟨by rw [List.length_map]; exact sz_le (by omega), ?_⟩
  refine ⟨_, d', ⟨rfl, ?_⟩⟩
  simp? only [true_and]
  refine dem_fld d' ?_
  rw [ap3_e]
  refine is_same_run ok fA kf' (by omega) ko' r' fun h2 fr2 => ?_
  simp? only [true_and]
  rw [ap3_e]
  have d2 : DemA h2 pf' Lf' := fr2.at_ d'
  have d12 : DemA h2 p1 L1 := fr2.at_ d1'
  refine fields_right_run ok fA kf' d2 ko' r' fun h3 fr3 => ?_
  have d3 : DemA h3 pf' Lf' := fr3.at_ d2
  have d13 : DemA h3 p1 L1 := fr3.at_ d12
  simp? only [true_and]
  have ewf : w.map D.str ++ [D.str f] = (w ++ [f]).map D.str := by rw [List.map_append]; rfl
  rw [ewf]
  refine in_run k1.ok d13 ?_
  refine in_run (w := []) kf'.ok d3 ?_
  have e2 : endAt L1 (behA L1 (w ++ [f])) = endAt Lf' (behA Lf' []) := by
    rw [rp_end ew', ← rp_end (rl_rp r')]; rfl
  rw [e2, DL.ev_eq_b_t rfl]
  refine ⟨fun z => (by cases z), fun _ => ?_⟩
  have frA : Fr h h3 := fr.trans (fr2.trans fr3)
  exact q pf' Lf' h3 (S.new hp') kf' d13 d3 (S.fr frA) frA ko' r' ew'
end
end K40
set_option maxHeartbeats 0
namespace K40
open PySem L2 DL
variable {A B L L' : Aut}
theorem par2 {P : Nat → Nat → Prop} (fn : ∀ k j j', P k j → P k j' → j = j') (inj : ∀ k k' j, P k j → P k' j → k = k') : ∀ {es' es : List (Str × Nat)}, EdR P es' es → ∀ {m m1 m2 : Nat}, (∀ k, k < m → P k k) → seqM m (es'.map (·.2)) = some m1 → seqM m (es.map (·.2)) = some m2 → es' = es ∧ m1 = m2 ∧ ∀ k, k < m1 → P k k := by
  intro es' es h
  induction h with
  | nil => intro m m1 m2 hm h1 h2; cases h1; cases h2; exact ⟨rfl, rfl, hm⟩
  | @cons f k j a b r _ ih =>
    intro m m1 m2 hm h1 h2
    rw [List.map_cons, seqM] at h1 h2
    simp only at h1 h2 r
    have kj : k = j ∧ ((k < m) ∨ (k = m)) := by
      by_cases c : j < m
      · have e := inj k j j r (hm j c)
        exact ⟨e, .inl (e ▸ c)⟩
      · rw [if_neg c] at h2
        by_cases c2 : j = m
        · by_cases c3 : k < m
          · have := fn k j k r (hm k c3)
            omega
          · rw [if_neg c3] at h1
            by_cases c4 : k = m
            · exact ⟨by omega, .inr c4⟩
            · rw [if_neg c4] at h1; cases h1
        · rw [if_neg c2] at h2; cases h2
    obtain ⟨rfl, c⟩ := kj
    rcases c with c | c
    · rw [if_pos c] at h1 h2
      obtain ⟨e1, e2, e3⟩ := ih hm h1 h2
      exact ⟨by rw [e1], e2, e3⟩
    · have n : ¬ k < m := by omega
      rw [if_neg n, if_pos c] at h1 h2
      obtain ⟨e1, e2, e3⟩ := ih (m := m + 1) (fun q hq => by
        by_cases z : q < m
        · exact hm q z
        · have : q = k := by omega
          rw [this]; exact r) h1 h2
      exact ⟨by rw [e1], e2, e3⟩
theorem least_uniq0 {ord ord' : List Nat} (o : LeastOf A L ord) (o' : LeastOf B L' ord') (b : Bis A B 0 0) : L' = L := by
  let R : Nat → Nat → Prop := fun k j => ∃ i' i, ord'[k]? = some i' ∧ ord[j]? = some i ∧ Bis A B i i'
  have fn : ∀ k j j', R k j → R k j' → j = j' := by
    rintro k j j' ⟨i', i, h1, h2, h3⟩ ⟨i2', i2, g1, g2, g3⟩
    rw [h1] at g1
    cases g1
    exact o.di j j' i i2 h2 g2 (bis_trans h3 (bis_symm g3))
  have inj : ∀ k k' j, R k j → R k' j → k = k' := by
    rintro k k' j ⟨i', i, h1, h2, h3⟩ ⟨i2', i2, g1, g2, g3⟩
    rw [h2] at g2
    cases g2
    exact o'.di k k' i' i2' h1 g1 (bis_trans (bis_symm h3) g3)
  have P : ∀ t, t ≤ L.length → t ≤ L'.length → L'.take t = L.take t ∧ ∀ m, seqM 1 ((L.take t).flatMap tgts) = some m → ∀ k, k < m → R k k := by
    intro t
    induction t with
    | zero =>
      intro _ _
      refine ⟨rfl, fun m h k hk => ?_⟩
      cases h
      have : k = 0 := by omega
      rw [this]; exact ⟨0, 0, o'.z, o.z, b⟩
    | succ t ih =>
      intro h1 h2
      obtain ⟨e, hk⟩ := ih (by omega) (by omega)
      obtain ⟨m, hm, lt⟩ := o.can.go t h1
      obtain ⟨i', i, oi', oi, bi⟩ := hk m hm t lt
      obtain ⟨s, t', a1, a2, a3, a4⟩ := bis_at bi
      obtain ⟨u, u1, u2, u3⟩ := o.row t i s oi a1
      obtain ⟨u', v1, v2, v3⟩ := o'.row t i' t' oi' a2
      have r4 : EdR R u'.es u.es := by
        have x := (v3.trans (a4.symm)).trans u3.symm
        refine x.mono ?_
        rintro k j ⟨y, ⟨z, ⟨w, w1, w2⟩, z1⟩, y1, y2, y3⟩
        exact ⟨w, y1, w1, y2, bis_trans y3 (bis_trans z1 (bis_symm w2))⟩
      obtain ⟨m1, hm1⟩ := flat_some o.can (t := t + 1) h1
      obtain ⟨m2, hm2⟩ := flat_some o'.can (t := t + 1) h2
      rw [flat_one u1, hm] at hm1
      rw [flat_one v1, e, hm] at hm2
      obtain ⟨e1, e2, e3⟩ := par2 fn inj r4 (hk m hm) hm2 hm1
      have es : u' = u := by
        cases u'
        cases u
        simp only at u2 v2 e1
        rw [u2, v2, e1, a3]
      refine ⟨by rw [take_one u1, take_one v1, e, es], fun m3 h3 => ?_⟩
      rw [flat_one u1, hm, hm1] at h3
      cases h3
      rw [← e2]
      exact e3
  have le : ∀ n, n ≤ L.length → n ≤ L'.length → (n = L.length → n = L'.length) ∧ (n = L'.length → n = L.length) := fun n h1 h2 => by
    obtain ⟨e, _⟩ := P n h1 h2
    refine ⟨fun z => ?_, fun z => ?_⟩
    · by_cases c : n < L'.length
      · obtain ⟨m, hm, lt⟩ := o'.can.go n c
        rw [e, z, List.take_length, o.can.fin] at hm
        cases hm
        omega
      · omega
    · by_cases c : n < L.length
      · obtain ⟨m, hm, lt⟩ := o.can.go n c
        rw [← e, z, List.take_length, o'.can.fin] at hm
        cases hm
        omega
      · omega
  have el : L'.length = L.length := by
    rcases Nat.le_total L.length L'.length with h | h
    · have := (le L.length (Nat.le_refl _) h).1 rfl; omega
    · have := (le L'.length h (Nat.le_refl _)).2 rfl; omega
  obtain ⟨e, _⟩ := P L.length (Nat.le_refl _) (by omega)
  rw [List.take_length, ← el, List.take_length] at e
  exact e
theorem least_uniq (l : IsLeast A L) (l' : IsLeast B L') (b : (Live A 0 ∨ Live B 0) → Bis A B 0 0) : L' = L := by
  cases l with
  | none n =>
    cases l' with
    | none _ => rfl
    | some h _ => exact absurd (bis_live (bis_symm (b (.inr h))) h) n
  | some h o =>
    cases l' with
    | none n => exact absurd (bis_live (b (.inl h)) h) n
    | some _ o' => exact least_uniq0 o o' (b (.inl h))
theorem least_same (ok : AutOk A) (l : IsLeast A L) (l' : IsLeast A L') : L' = L := least_uniq l l' fun h => by
  have h : Live A 0 := h.elim id id
  exact bis_refl h.lt ok.lt
end K40
set_option maxHeartbeats 0
namespace K40
open PySem L2 DL
section
variable {p c : Addr} {h : DH} {E : EKt} {A L : Aut}
theorem Lst.mono {n m : Nat} (l : Lst n L) (h : n ≤ m) : Lst m L := ⟨l.ok, l.f, l.l, Nat.le_trans l.len h⟩
theorem start_e : (D.int (if (A.length : Int) - 1 < 0 then (A.length : Int) - 1 else 0)) = oD (first A) := by
  unfold first
  cases A with
  | nil => rfl
  | cons s A =>
    rw [if_neg (by rw [List.length_cons]; omega), if_neg (by simp)]
    rfl
theorem aut_ix {i : Nat} (li : i < A.length) {Q : D → DH → Prop} (q : Q (A[i]).d h) : (opIx2 (autD A) (.int (i : Int))).run h Q E := ⟨_, by rw [DL.atI_nat]; exact st_get (List.getElem?_eq_getElem li), q⟩
def nmR {α : Type} (v0 v3 v2 at_ : D) (K : D → W (Fl α α)) : W (Fl α α) := (eCall (ap2 c_law_pick) [W.pure v0, W.pure v3]).bind fun v11_name => sThen (wIte (wAnd (c2 opGe (W.pure at_) (W.pure (D.int 0))) (wAnd (c2 opNe4 (e2 opIx2 (e2 opIx2 (W.pure v2) (W.pure at_)) (W.pure (D.int 1))) (eTup [])) (c2 opGt (eCall (ap2 c_law_draw) [W.pure v0, W.pure (.int 3)]) (W.pure (D.int 0))))) ((e2 opIx2 (eCall (ap2 c_law_pick) [W.pure v0, e2 opIx2 (e2 opIx2 (W.pure v2) (W.pure at_)) (W.pure (D.int 1))]) (W.pure (D.int 0))).bind fun v13_name => sNx v13_name) (sNx v11_name)) K
theorem row_nm (v0 v3 v2 v1 t : D) (q8 : D × D × D) : l1_law_row_right v0 v3 v2 v1 t q8 = nmR v0 v3 v2 q8.1 (tlR v2 v1 q8) := by rw [l1_row_eq]; rfl
theorem nm_run (ok : AutOk A) {ns : List Str} (ne : ns ≠ []) (l5 : ns.length ≤ 5) {m : Nat} (S : Dp p c (m + 3) h) {o : Option Nat} (ko : OkO A o) {α : Type} {K : D → W (Fl α α)} {Q : Fl α α → DH → Prop}
    (fin : ∀ (g : Str) (h' : DH), Dp p c m h' → FrX (At p c) h h' → (K (.str g)).run h' Q E) : (nmR (.ref p) (.cl (ns.map D.str)) (autD A) (oD o) K).run h Q E := by
  unfold nmR
  simp? only [true_and]
  rw [ap2_e]
  refine pick_cl (m := m + 2) S (by simpa using ne) (by rw [List.length_map]; omega) fun d hd h1 S1 f1 => ?_
  obtain ⟨f, hf, rfl⟩ := List.mem_map.mp hd
  cases o with
  | none =>
    simp? only [oD]
    exact fin f h1 (S1.le (by omega)) f1
  | some i =>
    have li := ko i rfl
    have ge : (i : Int) ≥ 0 := by omega
    simp? only [oD, ge]
    refine aut_ix li ?_
    simp? only [Sta.d]
    refine ⟨fun z => ?_, fun z => fin f h1 (S1.le (by omega)) f1⟩
    have e0 : A[i].es.map edgD ≠ [] := fun e => by rw [e] at z; cases z
    rw [ap2_e]
    refine draw_run (m := m + 1) S1 (by decide) (by decide) fun b hb h2 S2 f2 => ?_
    by_cases c0 : (b : Int) > 0
    · rw [DL.ev_gt_t c0]
      refine ⟨fun _ => ?_, fun z => (by cases z)⟩
      refine aut_ix li ?_
      simp? only [Sta.d]
      rw [ap2_e]
      have l20 := ok.le _ (List.getElem_mem li)
      refine pick_tup (m := m) S2 e0 (by rw [List.length_map]; omega) fun d hd h3 S3 f3 => ?_
      obtain ⟨⟨g, j⟩, hg, rfl⟩ := List.mem_map.mp hd
      simp? only [edgD]
      exact fin g h3 S3 ((f1.trans f2).trans f3)
    · rw [DL.ev_gt_f c0]
      refine ⟨fun z => (by cases z), fun _ => ?_⟩
      exact fin f h2 (S2.le (by omega)) (f1.trans f2)
theorem turn_run (ok : AutOk A) (fA : AutF A) {ns : List Str} (ne : ns ≠ []) (l5 : ns.length ≤ 5) {n m : Nat} (n90 : n ≤ 90) {p1 pf : Addr} {L1 Lf : Aut} (k1 : Lst 90 L1) (kf : Lst n Lf) (d1 : DemA h p1 L1) (df : DemA h pf Lf) (n1 : ¬ At p c p1) (nf : ¬ At p c pf) (S : Dp p c (m + 3) h)
    {o : Option Nat} (ko : OkO A o) (r : Rl Lf A o) {w : List Str} (ew : Rp L1 A (behA L1 w) o) (wl : w.length ≤ 20) (t : D) {Q : Fl (D × D × D) (D × D × D) → DH → Prop}
    (q : ∀ f pf' Lf' h', ¬ At p c pf' → Lst (n + 1) Lf' → DemA h' p1 L1 → DemA h' pf' Lf' → Dp p c m h' → FrX (At p c) h h' → OkO A (stepA A o f) → Rl Lf' A (stepA A o f) → Rp L1 A (behA L1 (w ++ [f])) (stepA A o f) → Q (.nx (oD (stepA A o f), .ref pf', .tup ((w ++ [f]).map D.str))) h') :
    (l1_law_row_right (.ref p) (.cl (ns.map D.str)) (autD A) (.ref p1) t (oD o, .ref pf, .tup (w.map D.str))).run h Q E := by
  rw [row_nm]
  exact nm_run ok ne l5 S ko fun g h' S' f' =>
    tl_run ok fA n90 k1 kf (f' _ _ d1 n1) (f' _ _ df nf) S' ko r ew wl g fun pf' Lf' h2 a0 a1 a2 a3 a4 a5 a6 a7 a8 => q g pf' Lf' h2 a0 a1 a2 a3 a4 (f'.trans a5.x) a6 a7 a8
end
end K40
set_option maxHeartbeats 0
namespace K40
open PySem L2 DL
section
variable {p c : Addr} {h : DH} {E : EKt} {A L : Aut}
theorem len_aut {Q : D → DH → Prop} : (bLen2 [autD A]).run h Q E = Q (.int (A.length : Int)) h := by
  unfold autD
  rw [DL.fv_lenT, List.length_map]
theorem row_right_run (ok : AutOk A) (fA : AutF A) {ns : List Str} (ne : ns ≠ []) (l5 : ns.length ≤ 5) {m : Nat} {p1 : Addr} {L1 : Aut} (k1 : Lst 8 L1) (d1 : DemA h p1 L1) (n1 : ¬ At p c p1) (r1 : Rl L1 A (first A)) (S : Dp p c (m + 30) h) {Q : D → DH → Prop}
    (q : ∀ h', Dp p c m h' → FrX (At p c) h h' → Q (.bl true) h') : (c_law_row_right (.ref p) (.ref p1) (autD A) (.cl (ns.map D.str))).run h Q E := by
  refine fg ?_
  unfold cb_law_row_right
  simp? only [true_and]
  rw [len_aut]
  simp? only [true_and]
  rw [start_e]
  rw [ap2_e]
  refine draw_run (m := m + 29) S (by decide) (by decide) fun b hb h1 S1 f1 => ?_
  refine ⟨by omega, ?_⟩
  simp only [sRng]
  refine run_for (fun i cc h' => ∃ o pf Lf w, cc = (oD o, D.ref pf, D.tup (w.map D.str)) ∧ OkO A o ∧ Lst (8 + i) Lf ∧ DemA h' p1 L1 ∧ DemA h' pf Lf ∧ ¬ At p c pf ∧ Rl Lf A o ∧ Rp L1 A (behA L1 w) o ∧ w.length ≤ i ∧ i ≤ 7 ∧ Dp p c (m + 3 * (7 - i)) h' ∧ FrX (At p c) h h')
    ⟨first A, p1, L1, [], rfl, first_ok, k1, f1 _ _ d1 n1, f1 _ _ d1 n1, n1, r1, rl_rp r1, Nat.le_refl _, by omega, S1.le (by omega), f1⟩ ?_ ?_
  · rintro i _ h2 x hx ⟨o, pf, Lf, w, rfl, ko, kf, e1, ef, nf, r, rp, wl, i7, S2, f2⟩
    obtain ⟨li, rfl⟩ := rng_inv hx
    have li : i < 7 := by omega
    refine ⟨trivial, ?_⟩
    simp? only [true_and]
    refine turn_run (n := 8 + i) (m := m + 3 * (7 - (i + 1))) ok fA ne l5 (by omega) (k1.mono (by omega)) kf e1 ef n1 nf (S2.le (by omega)) ko r rp (by omega) _ fun f pf' Lf' h3 a0 a1 a2 a3 a4 a5 a6 a7 a8 => ?_
    exact ⟨_, pf', Lf', w ++ [f], rfl, a6, a1, a2, a3, a0, a7, a8, by rw [List.length_append, List.length_singleton]; omega, li, a4, f2.trans a5⟩
  · rintro _ h2 ⟨o, pf, Lf, w, rfl, ko, kf, e1, ef, nf, r, rp, wl, i7, S2, f2⟩
    refine ⟨trivial, ?_⟩
    simp? only [true_and]
    exact q h2 (S2.le (by omega)) f2
end
end K40
set_option maxHeartbeats 0
namespace K40
open PySem L2 DL
section
variable {p c : Addr} {h : DH} {E : EKt} {A L : Aut}
theorem beh_ne {n : Nat} (n100 : n < 100) (k : Lst n L) {f : Str} {L' : Aut} (l' : IsLeast (rootO L (stepA L (first L) f)) L') : L' ≠ [] ↔ f ∈ (esAt L (first L)).map (·.1) := by
  have l100 : L.length < 100 := Nat.lt_of_le_of_lt k.len n100
  have mem_look : ∀ {es : List (Str × Nat)}, es.lookup f = none → f ∉ es.map (·.1) := fun {es} => by
    induction es with
    | nil => intro _ z; cases z
    | cons p es ih =>
      intro z
      rw [List.lookup_cons] at z
      by_cases cc : f = p.1
      · rw [show (f == p.1) = true from by simp [cc]] at z; cases z
      · rw [show (f == p.1) = false from by simpa using cc] at z
        intro hm
        rcases List.mem_cons.mp hm with e | e
        · exact cc e
        · exact ih z e
  cases e : stepA L (first L) f with
  | none =>
    rw [e] at l'
    have : L' = [] := by
      cases l' with
      | none _ => rfl
      | some h _ => exact absurd h.lt (by simp [rootO])
    refine ⟨fun z => absurd this z, fun z => absurd z (mem_look e)⟩
  | some x =>
    have lx : x < L.length := step_ok k.ok x e
    rw [e] at l'
    have rb := root_bis k.ok lx
    have rl : Live (rootA L x) 0 := bis_live (bis_symm rb) (k.all lx)
    have okr := root_ok k.ok lx l100
    exact ⟨fun _ => List.mem_map.mpr ⟨_, look_mem e, rfl⟩, fun _ => (least_bis l' okr rl).2⟩
theorem inF_strs2 {f : Str} {l : List Str} : inF (.str f) (l.map D.str) = decide (f ∈ l) := by
  induction l with
  | nil => rfl
  | cons k l ih =>
    unfold inF at ih ⊢
    rw [List.map_cons, List.any_cons, ih]
    by_cases e : k = f
    · subst e; simp [eqF]
    · have e' : eqF (.str k) (.str f) = false := by simp [eqF, e]
      rw [e']
      simp [show ¬ f = k from fun z => e z.symm]
theorem in_strs {f : Str} {l : List Str} {Q : Bool → DH → Prop} (q : Q (decide (f ∈ l)) h) : (opIn2 (.str f) (.tup (l.map D.str))).run h Q E := by
  refine ⟨⟨rfl, by rw [List.all_map]; exact List.all_eq_true.mpr fun _ _ => rfl⟩, ?_⟩
  rw [inF_strs2]; exact q
theorem name_turn (ok : AutOk A) (fA : AutF A) {p1 : Addr} {L1 : Aut} (k1 : Lst 8 L1) (d1 : DemA h p1 L1) (r1 : Rl L1 A (first A)) (f : Str) {Q : Fl Unit Unit → DH → Prop}
    (q : ∀ h', Fr h h' → Q (.nx ()) h') : (l2_law (.ref p1) (autD A) (oD (first A)) (.str f) ()).run h Q E := by
  have l100 : L1.length < 100 := by have := k1.len; omega
  unfold l2_law
  simp? only [true_and]
  refine ⟨_, d1, ⟨rfl, rfl, ?_⟩⟩
  show (ap2 c_Demand_behind [D.ref p1, D.str f]).run h _ E
  rw [ap2_e]
  refine behind_run k1.ok l100 d1 fun pf L' h1 l' hp' d' f1 => ?_
  have st1 : OkO L1 (stepA L1 (first L1) f) := step_ok k1.ok
  obtain ⟨okr, lnr⟩ := rootO_ok k1.ok st1 l100
  have k' : Lst 9 L' := Lst.mk_ l' okr (root_fp k1.f _) (by have := k1.len; omega)
  have r' : Rl L' A (stepA A (first A) f) := rl_step ok (n := 8) (by omega) k1 first_ok r1 f l'
  have d1' : DemA h1 p1 L1 := f1.at_ d1
  refine dem_fld d' ?_
  rw [ap3_e]
  refine to_run ok first_ok ?_
  rw [ap3_e]
  refine is_same_run ok fA k' (by omega) (step_ok ok) r' fun h2 f2 => ?_
  have d2 : DemA h2 pf L' := f2.at_ d'
  have d12 : DemA h2 p1 L1 := f2.at_ d1'
  simp? only [true_and]
  refine ⟨_, d12, ⟨rfl, rfl, ?_⟩⟩
  show (ap2 c_Demand_behind [D.ref p1, D.str f]).run h2 _ E
  rw [ap2_e]
  refine behind_run k1.ok l100 d12 fun pg L2 h3 l2 hp2 dg f3 => ?_
  have e2 : L2 = L' := least_same okr l' l2
  subst e2
  have d3 : DemA h3 pf L2 := f3.at_ d2
  have d13 : DemA h3 p1 L1 := f3.at_ d12
  refine ⟨_, dg, ⟨rfl, ?_⟩⟩
  refine ⟨_, d3, ⟨rfl, ?_⟩⟩
  show ((ap2 c_Demand_eq [D.ref pg, D.ref pf]).bind asBool).run h3 _ E
  rw [ap2_e]
  refine eq_run k'.ok k'.f dg d3 ?_
  refine ⟨fun z => (by cases z), fun _ => ?_⟩
  refine ⟨_, d3, ⟨rfl, ?_⟩⟩
  show (((ap1 c_Demand_bool [D.ref pf]).bind asBool).bind _).run h3 _ E
  rw [ap1_e]
  refine bool_run d3 ?_
  refine ⟨_, d13, ⟨rfl, ?_⟩⟩
  rw [ap1_e]
  refine fields_run k1.ok d13 ?_
  refine in_strs ?_
  have ee : decide (L2 ≠ []) = decide (f ∈ sortS ((esAt L1 (first L1)).map (·.1))) := by
    have := (beh_ne (by omega) k1 l').trans (sortS_perm _).mem_iff.symm
    exact decide_eq_decide.mpr this
  rw [ee]
  refine (show (opEq (D.bl _) (D.bl _)).run h3 _ E from ?_)
  rw [DL.ev_eq_b_t rfl]
  exact ⟨fun z => (by cases z), fun _ => q h3 (f1.trans (f2.trans f3))⟩
end
end K40
set_option maxHeartbeats 0
namespace K40
open PySem L2 DL
section
variable {p c : Addr} {h : DH} {E : EKt} {A L : Aut}
theorem cut_last {ns : List Str} : cutD (ns.map D.str) none (some (-1)) = ns.dropLast.map D.str := by
  have e : cutD (ns.map D.str) none (some (-1)) = (ns.map D.str).take ((-1 : Int) + ((ns.map D.str).length : Int)).toNat := by
    show List.take (((-1 : Int) + ((ns.map D.str).length : Int)).toNat - 0) (List.drop 0 _) = _
    rw [List.drop_zero, Nat.sub_zero]
  rw [e, List.length_map, List.dropLast_eq_take, List.map_take]
  congr 1
  omega
theorem law_turn {m : Nat} (S : Dp p c (m + 300) h) (t : D) {Q : Fl Unit Unit → DH → Prop} (q : ∀ h', Dp p c m h' → Q (.nx ()) h') : (l1_law (.ref p) t ()).run h Q E := by
  unfold l1_law
  simp? only [true_and]
  rw [ap2_e]
  refine draw_run (m := m + 299) S (by decide) (by decide) fun b hb h1 S1 f1 => ?_
  have eb : (2 + (b : Int)) = ((2 + b : Nat) : Int) := by omega
  simp? only [true_and]
  rw [eb]
  rw [ap2_e]
  refine names_run (n := 2 + b) (m := m + 295) (by omega) S1 fun ns h2 ln nk S2 f2 => ?_
  simp? only [true_and]
  rw [cut_last, ap3_e]
  have ne : ns ≠ [] := fun z => by
    rw [z] at ln
    have : (0 : Nat) = 2 + b := ln
    omega
  refine automaton_run (m := m + 195) (nk.sub (List.dropLast_sublist _)) (by rw [List.length_dropLast]; omega) S2 fun A h3 ok fA l7 S3 f3 => ?_
  rw [ap1_e]
  refine of_run ok fun p1 L1 h4 l1 n1 d1 f4 => ?_
  rw [len_aut]
  simp? only [true_and]
  rw [start_e]
  refine dem_fld d1 ?_
  have okL : AutOk L1 := l1.ok ok
  have fL : AutF L1 := l1.fp fA
  have k1 : Lst 8 L1 := Lst.mk_ l1 ok fA (by omega)
  have r1 : Rl L1 A (first A) := rl_first ok l1
  refine repr_q2 (sh_aut okL fL) ?_
  rw [ap3_e]
  refine fields_right_run ok fA k1 d1 first_ok r1 fun h5 f5 => ?_
  have d5 : DemA h5 p1 L1 := f5.at_ d1
  have np : ¬ At p c p1 := S3.new n1
  simp? only [true_and]
  have S5 : Dp p c (m + 195) h5 := (S3.fr f4).fr f5
  refine run_for (fun i _ h' => DemA h' p1 L1 ∧ Dp p c (m + 195) h') ⟨d5, S5⟩ ?_ ?_
  · rintro i _ h6 x hx ⟨d6, S6⟩
    rw [List.getElem?_map] at hx
    obtain ⟨f, hf, rfl⟩ := Option.map_eq_some_iff.mp hx
    refine ⟨trivial, ?_⟩
    simp? only [true_and]
    exact name_turn ok fA k1 d6 r1 f fun h7 f7 => ⟨f7.at_ d6, S6.fr f7⟩
  · rintro _ h6 ⟨d6, S6⟩
    refine ⟨trivial, ?_⟩
    simp? only [true_and]
    refine ⟨by omega, ?_⟩
    simp only [sRng]
    refine run_for (fun i _ h' => DemA h' p1 L1 ∧ Dp p c (m + 30 * (4 - i)) h') ⟨d6, S6.le (by omega)⟩ ?_ ?_
    · rintro i _ h7 x hx ⟨d7, S7⟩
      obtain ⟨li, rfl⟩ := rng_inv hx
      refine ⟨trivial, ?_⟩
      simp? only [true_and]
      unfold l3_law
      simp? only [true_and]
      rw [ap4_e]
      refine row_right_run (m := m + 30 * (4 - (i + 1))) ok fA ne (by omega) k1 d7 np r1 (S7.le (by omega)) fun h8 S8 f8 => ?_
      simp? only [true_and]
      exact ⟨f8 _ _ d7 np, S8⟩
    · rintro _ h7 ⟨d7, S7⟩
      refine ⟨trivial, ?_⟩
      simp? only [true_and]
      refine dem_fld d7 ?_
      refine repr_q2 (sh_aut okL fL) ?_
      rw [DL.ev_eq_s_t rfl]
      exact ⟨fun z => (by cases z), fun _ => q h7 (S7.le (by omega))⟩
theorem law_main {ns : List Int} (hl : ns.length ≤ 63) {h : DH} {Q : D → DH → Prop} {E : EKt} (k : ∀ h', Q (.bl true) h') : (c_law (.cl (ns.map D.int))).run h Q E := by
  refine fg ?_
  unfold cb_law
  simp? only [true_and]
  rw [ap1_e]
  refine deck_run hl fun p c h1 S => ?_
  refine ⟨by omega, ?_⟩
  simp only [sRng]
  refine run_for (fun i _ h' => Dp p c (1000 + 300 * (3 - i)) h') (S.le (by omega)) ?_ ?_
  · rintro i _ h2 x hx S2
    obtain ⟨li, rfl⟩ := rng_inv hx
    refine ⟨trivial, ?_⟩
    simp? only [true_and]
    exact law_turn (m := 1000 + 300 * (3 - (i + 1))) (S2.le (by omega)) _ fun h3 S3 => S3
  · rintro _ h2 S2
    refine ⟨trivial, ?_⟩
    simp? only [true_and]
    exact k _
end
theorem law_ok (ns : List Int) (hl : ns.length ≤ 63) : (ap1 c_law [.cl (ns.map D.int)]).run (fun _ => none) (fun d _ => d = .bl true) EK0 := law_main hl fun _ => rfl
end K40

open PySem PySem.W PyProof.Rows in
set_option maxRecDepth 100000 in
set_option maxHeartbeats 0 in
theorem PySem.Challenge.cw_wayson_k40_behind_a_field_holds : PySem.Challenge.rw_wayson_k40_behind_a_field.Holds := by
  w_on; o_law; k_head; (case hw => w_witness2)
  k_fill
  refine DL.walk_code (l := PySem.Challenge.rw_wayson_k40_behind_a_field) (f := DL.ap1 K40.c_law) (x := "_law_script") (k := 8) rfl rfl ⟨rfl, by decide, by decide⟩ (by decide +kernel) (fun w h Y => PySem.W.kIn_of Y) ?F (fun ns hl => K40.law_ok ns hl)
  case F =>
    intro w mg fa h KX G hmg
    refine' K40.all_mk KX G hmg ?aC_Demand ?cg_Demand ?ch_Demand ?co_Demand ?cs_Demand ?rd_Demand ?ga_Demand ?ic_Demand ?ig_Demand ?it_Demand ?im_Demand ?cm_Demand ?ck_Demand ?cn_Demand_automaton ?a0 ?l0 ?c0 ?k0 ?a1 ?l1 ?c1 ?k1 ?a2 ?l2 ?c2 ?k2 ?a4 ?l4 ?c4 ?k4 ?a5 ?l5 ?c5 ?k5 ?a6 ?l6 ?c6 ?k6 ?a8 ?l8 ?c8 ?k8 ?a9 ?l9 ?c9 ?k9 ?i18 ?a18 ?l18 ?c18 ?k18 ?a23 ?l23 ?c23 ?k23 ?a24 ?l24 ?c24 ?k24 ?a28 ?l28 ?c28 ?k28 ?a29 ?l29 ?c29 ?k29 ?a3 ?l3 ?c3 ?k3 ?a7 ?l7 ?c7 ?k7 ?a10 ?l10 ?c10 ?k10 ?pg21 ?pt21 ?pq21 ?a21 ?l21 ?c21 ?k21 ?a25 ?l25 ?c25 ?k25 ?a27 ?l27 ?c27 ?k27 ?i11 ?a11 ?l11 ?c11 ?k11 ?i17 ?a17 ?l17 ?c17 ?k17 ?a26 ?l26 ?c26 ?k26 ?a31 ?l31 ?c31 ?k31 ?sm12 ?a12 ?l12 ?c12 ?k12 ?i13 ?a13 ?l13 ?c13 ?k13 ?i20 ?a20 ?l20 ?c20 ?k20 ?a30 ?l30 ?c30 ?k30 ?a32 ?l32 ?c32 ?k32 ?a33 ?l33 ?c33 ?k33 ?z_bool ?z_dict ?z_enumerate ?z_int ?z_isinstance ?z_len ?z_list ?z_min ?z_range ?z_repr ?z_set ?z_sorted ?z_tuple ?z_zip ?a_BOTH ?v_BOTH ?a_EITHER ?v_EITHER ?a_FIRST_ALONE ?v_FIRST_ALONE ?a_NOWHERE ?v_NOWHERE
    (case aC_Demand => k_is)
    (case cg_Demand => k_is)
    (case ch_Demand => k_is)
    (case co_Demand => k_is)
    (case cs_Demand => k_is)
    (case rd_Demand => k_is)
    (case ga_Demand => k_is)
    (case ic_Demand => k_is)
    (case ig_Demand => k_is)
    (case it_Demand => k_is)
    (case im_Demand => k_is)
    (case cm_Demand => k_is)
    (case ck_Demand => k_is)
    (case cn_Demand_automaton => k_is)
    (case a0 => k_is)
    (case l0 => k_is)
    (case c0 => k_is)
    (case k0 => k_is)
    (case a1 => k_is)
    (case l1 => k_is)
    (case c1 => k_is)
    (case k1 => k_is)
    (case a2 => k_is)
    (case l2 => k_is)
    (case c2 => k_is)
    (case k2 => k_is)
    (case a4 => k_is)
    (case l4 => k_is)
    (case c4 => k_is)
    (case k4 => k_is)
    (case a5 => k_is)
    (case l5 => k_is)
    (case c5 => k_is)
    (case k5 => k_is)
    (case a6 => k_is)
    (case l6 => k_is)
    (case c6 => k_is)
    (case k6 => k_is)
    (case a8 => k_is)
    (case l8 => k_is)
    (case c8 => k_is)
    (case k8 => k_is)
    (case a9 => k_is)
    (case l9 => k_is)
    (case c9 => k_is)
    (case k9 => k_is)
    (case i18 => k_is)
    (case a18 => k_is)
    (case l18 => k_is)
    (case c18 => k_is)
    (case k18 => k_is)
    (case a23 => k_is)
    (case l23 => k_is)
    (case c23 => k_is)
    (case k23 => k_is)
    (case a24 => k_is)
    (case l24 => k_is)
    (case c24 => k_is)
    (case k24 => k_is)
    (case a28 => k_is)
    (case l28 => k_is)
    (case c28 => k_is)
    (case k28 => k_is)
    (case a29 => k_is)
    (case l29 => k_is)
    (case c29 => k_is)
    (case k29 => k_is)
    (case a3 => k_is)
    (case l3 => k_is)
    (case c3 => k_is)
    (case k3 => k_is)
    (case a7 => k_is)
    (case l7 => k_is)
    (case c7 => k_is)
    (case k7 => k_is)
    (case a10 => k_is)
    (case l10 => k_is)
    (case c10 => k_is)
    (case k10 => k_is)
    (case pg21 => k_is)
    (case pt21 => k_is)
    (case pq21 => k_is)
    (case a21 => k_is)
    (case l21 => k_is)
    (case c21 => k_is)
    (case k21 => k_is)
    (case a25 => k_is)
    (case l25 => k_is)
    (case c25 => k_is)
    (case k25 => k_is)
    (case a27 => k_is)
    (case l27 => k_is)
    (case c27 => k_is)
    (case k27 => k_is)
    (case i11 => k_is)
    (case a11 => k_is)
    (case l11 => k_is)
    (case c11 => k_is)
    (case k11 => k_is)
    (case i17 => k_is)
    (case a17 => k_is)
    (case l17 => k_is)
    (case c17 => k_is)
    (case k17 => k_is)
    (case a26 => k_is)
    (case l26 => k_is)
    (case c26 => k_is)
    (case k26 => k_is)
    (case a31 => k_is)
    (case l31 => k_is)
    (case c31 => k_is)
    (case k31 => k_is)
    (case sm12 => k_is)
    (case a12 => k_is)
    (case l12 => k_is)
    (case c12 => k_is)
    (case k12 => k_is)
    (case i13 => k_is)
    (case a13 => k_is)
    (case l13 => k_is)
    (case c13 => k_is)
    (case k13 => k_is)
    (case i20 => k_is)
    (case a20 => k_is)
    (case l20 => k_is)
    (case c20 => k_is)
    (case k20 => k_is)
    (case a30 => k_is)
    (case l30 => k_is)
    (case c30 => k_is)
    (case k30 => k_is)
    (case a32 => k_is)
    (case l32 => k_is)
    (case c32 => k_is)
    (case k32 => k_is)
    (case a33 => k_is)
    (case l33 => k_is)
    (case c33 => k_is)
    (case k33 => k_is)
    (case z_bool => k_is)
    (case z_dict => k_is)
    (case z_enumerate => k_is)
    (case z_int => k_is)
    (case z_isinstance => k_is)
    (case z_len => k_is)
    (case z_list => k_is)
    (case z_min => k_is)
    (case z_range => k_is)
    (case z_repr => k_is)
    (case z_set => k_is)
    (case z_sorted => k_is)
    (case z_tuple => k_is)
    (case z_zip => k_is)
    (case a_BOTH => k_is)
    (case v_BOTH => exact ⟨_, rfl⟩)
    (case a_EITHER => k_is)
    (case v_EITHER => exact ⟨_, rfl⟩)
    (case a_FIRST_ALONE => k_is)
    (case v_FIRST_ALONE => exact ⟨_, rfl⟩)
    (case a_NOWHERE => k_is)
    (case v_NOWHERE => exact ⟨_, rfl⟩)
