import PyProof.Rows.All
import Wide.All
import OpenK.AllK
import Wide.FinOn
import HandS.ForMost
import HandS.Flow
import HandS.Conv
import HandS.Zip
import HandS.Style
import HandS.TupAny
import HandS.TupMul
import HandS.IsInst
import HandS.Deep
import HandS.Wide
import KE.KDictKeyed
import KE.KDictCopyH
import KE.KDictItemsList
import KE.GoesEnum
import KE.GoesMore
import KE.SortData
import KE.SortLaws
import KE.DataCmp
import HandS.DictComp
import HandS.More
import HandS.TupLen
import KE.KDictSum
import HandS.Words
import HandS.Defaults
import HandS.HeadEnd
import HandS.Head0
import HandS.Head1
import HandS.Head2
import HandS.HeadHook1
import HandS.HeadHook2
import KE.DatumIndex
import KE.DataFind
import KE.KIndexOf
import KE.KRevSl
import HandS.SetFor
import HandS.TryOnly
import KE.KDictDisplayH
import HandS.HeadHook3
import KE.KDictPairs
import KE.DataMinMax
import HandS.Head3
import PySem.Challenge.RW_partsbarred_k70_families_by_distances
set_option Elab.async false
set_option linter.all false
set_option autoImplicit false
set_option maxRecDepth 100000
set_option maxHeartbeats 0
/-! VM0: tuples of which it is known that they have no dict of their own: what makes them -/
namespace VM
open PySem PySem.Spec PyProof.Rows L2
/-- a tuple without a dict of its own -/
def SqN (K : PySem.W.Frag) (H : Hp) (a : Addr) (xs : List V) : Prop :=
  (∃ o : Obj, H a = some (.frz o (.tup xs)) ∧ o.dict = none) ∨
    ∃ (o : Obj) (its : Array Value) (n : Nat), K.lookup a = some o ∧ o.cls = .type "tuple" ∧ o.dict = none ∧ o.data = .seq its n ∧ its.size ≤ sizeLine ∧ Vals xs its.toList
theorem SqN.sq {K : PySem.W.Frag} {H : Hp} {a : Addr} {xs : List V} (h : SqN K H a xs) : SqT K H a xs := by
  rcases h with ⟨o, h, _⟩ | ⟨o, its, n, h1, h2, _, h3, h4, h5⟩
  · exact .inl (.inr ⟨o, h⟩)
  · exact .inr ⟨o, its, n, h1, h2, h3, h4, h5⟩
theorem SqN.new {K : PySem.W.Frag} {H : Hp} {p : Addr} {o : Obj} {xs : List V} (h : o.dict = none) : SqN K (upd H p (.frz o (.tup xs))) p xs := .inl ⟨o, upd_same, h⟩
/-- the new tuple, wherever it lies -/
def NewT (H : Hp) (Q : VK) (xs : List V) : Prop := ∀ p o, o.dict = none → H p = none → Q (.ref p) (upd H p (.frz o (.tup xs)))
section
variable {X : Cx} {pins : List (Addr × Obj)} {σ : L2.St} {H : Hp} {s : Shared}
theorem newT {xs : List V} {us : List Value} {Q : VK} (I : Inv X pins σ H s) (r : Vals xs us) (z : xs.length ≤ sizeLine) (q : NewT H Q xs) :
    ∃ x H', Inv X pins σ H' { s with heap := s.heap.push { cls := .type "tuple", data := .seq us.toArray } } ∧ RelV x (.ref s.heap.objs.size) ∧ Q x H' := by
  have hf : H s.heap.objs.size = none := I.hok.fresh (Nat.le_refl _)
  exact ⟨.ref s.heap.objs.size, upd H s.heap.objs.size (.frz { cls := .type "tuple", data := .seq us.toArray } (.tup xs)), I.laid (t' := s.toks) (fun b u e => Heap.get?_push_of_some _ e) (Nat.le_refl _) ⟨Heap.get?_push_size _ rfl, z, us, r, ⟨_, Heap.get?_push_size _ rfl, rfl, _, rfl⟩⟩, rfl, q _ _ rfl hf⟩
end
section
variable {X : Cx} {t : TA} {pos : Pos} {es : List Expr}
def tTupN (t : TA) : TE := fun σ H Q => t σ H fun xs H1 => xs.length ≤ sizeLine ∧ NewT H1 Q xs
theorem pe_tupN {x1 : Nat} (h : PA X es t) : PE X (.Tuple es x1 pos) (tTupN t) := by
  refine ⟨fun pins s σ H Q I hq => ?_⟩
  refine wpAny_Tuple_spliced (thn (h.run pos pins s σ H _ I hq) fun us s1 ⟨xs, H1, I1, r, z, q⟩ => ⟨by rw [← r.length]; exact z, ?_⟩)
  obtain ⟨x, H', I', rv, qx⟩ := newT I1 r z q
  exact ⟨x, H', I', rv, qx⟩
def tTupRgN (te : L2.St → Hp → (Int → Int → Hp → Prop) → Prop) : TE := fun σ H Q => te σ H fun a b H1 => RgOk a b ∧ NewT H1 Q (rgV a b)
theorem pe_tupRgN {e : Expr} {te : L2.St → Hp → (Int → Int → Hp → Prop) → Prop} {p pos : Pos} (hc : X.calm = true) (hg : Gl X "tuple") (hm : X.mg "tuple" = none) (he : PRg X e te) (na : starEach [e] X.env = (false, eval e X.env) :: starEach [] X.env := by rfl) : PE X (.Call (.Name "tuple" p) [e] [] pos) (tTupRgN te) := by
  refine ⟨fun pins s σ H Q I h => ?_⟩
  refine Call_ (ld_blt I hg hm boot_tuple (PyProof.Rows.callWith_type1 (args_cons (thn (he pins s σ H _ I h) fun x s1 ⟨r, a, b, t, u, v, H1, ex, hr, I1, ok, q⟩ => args_nil ?_) na) na))
  subst ex
  obtain ⟨b1, b2, b3, b4, b5⟩ := ok
  refine call_tuple_range (n := (b - a).toNat) (I1.ok.hd hc) hr (small_one b1 b2 b3 b4) (rangeSize_nat a b) b5 fun h' tk acc hk hi => ?_
  have I2 : Inv X pins σ H1 { s1 with heap := h', toks := tk } := I1.kept hk
  obtain ⟨x, H', I', rv, qx⟩ := newT (us := acc.toList) I2 (vals_rg hi) (by rw [rgV_length, sizeLine_eq]; omega) q
  rw [Array.toArray_toList] at I'
  exact ⟨x, H', I', rv, qx⟩
/-- t + u -/
def rCatN (K : PySem.W.Frag) : R2 := fun x y H Q => ∃ a b xs ys, x = .ref a ∧ y = .ref b ∧ SqT K H a xs ∧ SqT K H b ys ∧ xs.length + ys.length ≤ sizeLine ∧
  (xs = [] → Q (.ref b) H) ∧ (xs ≠ [] → ys = [] → Q (.ref a) H) ∧ (xs ≠ [] → ys ≠ [] → NewT H Q (xs ++ ys))
theorem op_catN : OpR X (binaryOp .Add) (rCatN X.K) := by
  intro pins s σ H x y v u Q I rx ry h
  obtain ⟨a, b, xs, ys, rfl, rfl, ha, hb, hz, q0, q1, q2⟩ := h
  cases rx
  cases ry
  obtain ⟨its, r1, p1, _⟩ := I.tuple ha
  obtain ⟨its2, r2, p2, _⟩ := I.tuple hb
  by_cases hx : xs = []
  · subst hx
    cases r1
    exact cat_tup0 p1 p2 ⟨.ref b, H, I, rfl, q0 rfl⟩
  · refine HT.cat_tup p1 p2 (fun z => hx (r1.nil_iff.mp z)) (fun z => ⟨.ref a, H, I, rfl, q1 hx (r2.nil_iff.mp z)⟩) (fun z => ?_) (by rw [← r1.length, ← r2.length]; exact hz)
    exact newT I (r1.append r2) (by rw [List.length_append]; exact hz) (q2 hx fun w => z (r2.nil_iff.mpr w))
/-- t[lo:hi]: the whole of it is t itself -/
def rSlN (K : PySem.W.Frag) : V → Option Int → Option Int → Hp → VK → Prop := fun x lo hi H Q => ∃ a xs, x = .ref a ∧ SqT K H a xs ∧
  (HT.sIx xs.length 0 lo = 0 ∧ HT.sIx xs.length xs.length hi = xs.length → Q (.ref a) H) ∧ (¬ (HT.sIx xs.length 0 lo = 0 ∧ HT.sIx xs.length xs.length hi = xs.length) → NewT H Q (cutV xs lo hi))
theorem sl_tupN : SlR X (rSlN X.K) := by
  intro pins s σ H x v vl vu lo hi sl Q I rx hs pl pu h
  obtain ⟨a, xs, rfl, hx, q1, q2⟩ := h
  cases rx
  obtain ⟨its, r, ht, hz⟩ := I.tuple hx
  have hlen : its.toArray.size = xs.length := by rw [List.size_toArray]; exact r.length.symm
  refine ⟨"tuple", _, PyProof.Rows.slot_tuple_getitem.lookup, ht.typeIs, ?_⟩
  by_cases hw : HT.sIx xs.length 0 lo = 0 ∧ HT.sIx xs.length xs.length hi = xs.length
  · exact getItem_tuple_whole ht hs pl pu (by rw [hlen]; exact hw) ⟨.ref a, H, I, rfl, q1 hw⟩
  · refine HT.getItem_tuple_cut ht hs pl pu (by rw [hlen]; exact hw) ?_ (by rw [hlen]; exact hz)
    rw [hlen]
    exact newT I ((r.drop (HT.sIx xs.length 0 lo)).take (HT.sIx xs.length xs.length hi - HT.sIx xs.length 0 lo)) (Nat.le_trans (cutV_length xs lo hi) hz) (q2 hw)
theorem call_tupleN : CallR X (.type "tuple") (fun xs H Q => ∃ p ys, xs = [.ref p] ∧ ((SqL X.K H p ys ∧ NewT H Q ys) ∨ (SqT X.K H p ys ∧ Q (.ref p) H))) := by
  intro pins s σ H xs us Q I r h
  obtain ⟨p, ys, rfl, h⟩ := h
  obtain ⟨u, rfl, rx⟩ := vals1 r
  cases rx
  rcases h with ⟨hq, q⟩ | ⟨hq, q⟩
  · obtain ⟨its, r', pl, hz⟩ := I.list hq
    have hlen := r'.length
    refine call_tuple_list pl.isList (fun h' kp => ?_) (by simp only [List.size_toArray] <;> omega)
    have I1 : Inv X pins σ H { s with heap := h' } := I.kept (t' := s.toks) kp
    exact newT I1 r' hz q
  · obtain ⟨its, r', pl, hz⟩ := I.tuple hq
    exact call_tuple_same pl ⟨.ref p, H, I, rfl, q⟩
def rRepN (K : PySem.W.Frag) : R2 := fun x y H Q => ∃ l k xs, x = .ref l ∧ y = .int k ∧ SqT K H l xs ∧ xs ≠ [] ∧ 2 ≤ k ∧ k ≤ 1000 ∧ xs.length ≤ 1000 ∧ NewT H Q (List.replicate k.toNat xs).flatten
theorem op_repN : OpR X (binaryOp .Mult) (rRepN X.K) := by
  intro pins s σ H x y v u Q I rx ry h
  obtain ⟨l, k, xs, rfl, rfl, hT, hne, h1, h2, hz, q⟩ := h
  cases rx
  obtain ⟨t, rfl⟩ := ry
  obtain ⟨its, r, ⟨⟨cls, dd, data, sl⟩, ho, hc, n, hd⟩, hs⟩ := I.tuple hT
  simp only at hc hd
  subst hc hd
  have hle : its.length = xs.length := r.length.symm
  have hn : its ≠ [] := fun e => hne (by
    rw [e] at hle
    exact List.eq_nil_of_length_eq_zero hle.symm)
  have hi : its.toArray.isEmpty = false := by
    cases its with
    | nil => exact absurd rfl hn
    | cons a b => rfl
  have hsz0 : its.toArray.size = xs.length := by rw [List.size_toArray, hle]
  have hm : ((its.toArray.size : Nat) : Int) * k ≤ 1000000 := by
    rw [hsz0]
    have a1 : ((xs.length : Nat) : Int) * k ≤ 1000 * k := Int.mul_le_mul_of_nonneg_right (by omega) (by omega)
    omega
  have flen : (List.replicate k.toNat its).flatten.length ≤ sizeLine := by
    rw [PyProof.Rows.lm_len_rep_flat, hle, sizeLine_eq]
    have a1 : k.toNat * xs.length ≤ 1000 * 1000 := Nat.mul_le_mul (by omega) hz
    omega
  have c0 : (decide (k < -(2 ^ 63)) || decide (k ≥ 2 ^ 63)) = false := by
    rw [decide_eq_false (by omega), decide_eq_false (by omega)] <;> rfl
  have c1 : (its.toArray.isEmpty || k == 1) = false := by
    rw [hi, Bool.false_or]
    exact beq_eq_false_iff_ne.mpr (by omega)
  have c2 : (decide (k ≤ 0) || its.toArray.isEmpty) = false := by
    rw [hi, Bool.or_false]
    exact decide_eq_false (by omega)
  have c4 : Builtin.Tuple.tupleTooMany (((its.toArray.size : Nat) : Int) * k) = false := by
    unfold Builtin.Tuple.tupleTooMany
    rw [sizeLine_eq]
    exact decide_eq_false (by omega)
  refine wpAny_binaryOp_repeat_ref (T := "tuple") (U := "int") (by decide) ⟨_, ho, rfl⟩ (fun s' => typeIs_int s' k t) noFill_tuple_mul F.fills_int_mul F.slot_int_rmul repeat_tuple F.slot_int_index.lookup
    (call_meets F.slot_int_rmul (typeIs_int s k t) F.entry_int_rmul (F.args_int_rmul_2 _ _) (int_rmul_tuple k t l its.toArray n dd sl)
      ⟨ho, rfl, ⟨_, ho, rfl⟩, call_meets F.slot_tuple_mul ⟨_, ho, rfl⟩ F.entry_tuple_mul (F.args_tuple_mul_2 _ _) (tuple_mulW l its.toArray n dd sl k t c0 c1 c2 (by omega) c4 (by rw [size_rep, List.size_toArray]; exact flen)) ⟨ho, ?_⟩⟩)
  rw [size_rep]
  exact newT I (r.rep k.toNat) (by rw [PyProof.Rows.lm_len_rep_flat, sizeLine_eq]; have a1 : k.toNat * xs.length ≤ 1000 * 1000 := Nat.mul_le_mul (by omega) hz; omega) q
end
end VM

/-! VM: a small machine of pure values over the hand layer. A value D is a tree; lists and dicts that change are places of a store. -/
namespace VM
open PySem PySem.Spec PyProof.Rows L2

inductive D where
  | non
  | bl (b : Bool)
  | int (i : Int)
  | str (x : Str)
  | tup (ds : List D)
  | pr (ds : List D)
  | fz (ds : List D)
  | lst (l : Nat)
  | dct (l : Nat)

inductive Ob where
  | lst (ds : List D)
  | dct (kvs : List (NestedKey × D))
  | dlk (kvs : List (NestedKey × D))

abbrev Store := List Ob
abbrev Env := List (Option D)
abbrev M (α : Type) := Store → Option (α × Store)

def ret {α : Type} (a : α) : M α := fun S => some (a, S)
def bnd {α β : Type} (m : M α) (k : α → M β) : M β := fun S => match m S with
  | some (a, S1) => k a S1
  | none => none
def fail {α : Type} : M α := fun _ => none

theorem bnd_some {α β : Type} {m : M α} {k : α → M β} {S S' : Store} {b : β} (h : bnd m k S = some (b, S')) : ∃ a S1, m S = some (a, S1) ∧ k a S1 = some (b, S') := by
  unfold bnd at h
  cases e : m S with
  | none => rw [e] at h; cases h
  | some p => obtain ⟨a, S1⟩ := p; rw [e] at h; exact ⟨a, S1, rfl, h⟩

/-! ### values in the heap -/
/-- a list that nobody writes -/
def FzL (K : PySem.W.Frag) (H : Hp) (a : Addr) (vs : List V) : Prop :=
  (∃ o, H a = some (.frz o (.lst vs))) ∨
    ∃ (o : Obj) (its : Array Value) (n : Nat), K.lookup a = some o ∧ o.cls = .type "list" ∧ o.dict = none ∧ o.data = .seq its n ∧ its.size ≤ sizeLine ∧ Vals vs its.toList
theorem FzL.sq {K : PySem.W.Frag} {H : Hp} {a : Addr} {vs : List V} (h : FzL K H a vs) : SqL K H a vs := by
  rcases h with ⟨o, h⟩ | h
  · exact .inl (.inr ⟨o, h⟩)
  · exact .inr h

mutual
inductive RV (K : PySem.W.Frag) (μ : List Addr) (H : Hp) : V → D → Prop
  | non : RV K μ H .non .non
  | bl (b : Bool) : RV K μ H (.bl b) (.bl b)
  | int (i : Int) : RV K μ H (.int i) (.int i)
  | str (x : Str) : RV K μ H (.str x) (.str x)
  | tup {a : Addr} {vs : List V} {ds : List D} : SqN K H a vs → RVs K μ H vs ds → RV K μ H (.ref a) (.tup ds)
  | pr {a : Addr} {vs : List V} {ds : List D} : SqT K H a vs → RVs K μ H vs ds → RV K μ H (.ref a) (.pr ds)
  | fz {a : Addr} {vs : List V} {ds : List D} : FzL K H a vs → RVs K μ H vs ds → RV K μ H (.ref a) (.fz ds)
  | lst {a : Addr} {l : Nat} : μ[l]? = some a → RV K μ H (.ref a) (.lst l)
  | dct {a : Addr} {l : Nat} : μ[l]? = some a → RV K μ H (.ref a) (.dct l)
inductive RVs (K : PySem.W.Frag) (μ : List Addr) (H : Hp) : List V → List D → Prop
  | nil : RVs K μ H [] []
  | cons {v : V} {d : D} {vs : List V} {ds : List D} : RV K μ H v d → RVs K μ H vs ds → RVs K μ H (v :: vs) (d :: ds)
end

/-- the heap has grown: what is a tuple stays, what is frozen stays, places stay -/
structure Ext0 (μ : List Addr) (H : Hp) (μ' : List Addr) (H' : Hp) : Prop where
  pl : ∀ (l : Nat) (a : Addr), μ[l]? = some a → μ'[l]? = some a
  tup : ∀ a vs, H a = some (.tup vs) → H' a = some (.tup vs)
  frz : ∀ a o u, H a = some (.frz o u) → H' a = some (.frz o u)
/-- .. and what is tracked but no place stays as it is -/
structure Ext (μ : List Addr) (H : Hp) (μ' : List Addr) (H' : Hp) : Prop extends Ext0 μ H μ' H' where
  kp : ∀ p, p ∉ μ → H p ≠ none → H' p = H p ∧ p ∉ μ'

section
variable {K : PySem.W.Frag} {μ μ1 μ2 : List Addr} {H H1 H2 : Hp}
theorem Ext0.refl : Ext0 μ H μ H := ⟨fun _ _ h => h, fun _ _ h => h, fun _ _ _ h => h⟩
theorem Ext.refl : Ext μ H μ H := ⟨Ext0.refl, fun _ h _ => ⟨rfl, h⟩⟩
theorem Ext0.trans (a : Ext0 μ H μ1 H1) (b : Ext0 μ1 H1 μ2 H2) : Ext0 μ H μ2 H2 :=
  ⟨fun l x h => b.pl l x (a.pl l x h), fun x vs h => b.tup x vs (a.tup x vs h), fun x o u h => b.frz x o u (a.frz x o u h)⟩
theorem Ext.trans (a : Ext μ H μ1 H1) (b : Ext μ1 H1 μ2 H2) : Ext μ H μ2 H2 :=
  ⟨a.toExt0.trans b.toExt0, fun p h n => by
    obtain ⟨e1, h1⟩ := a.kp p h n
    obtain ⟨e2, h2⟩ := b.kp p h1 (by rw [e1]; exact n)
    exact ⟨e2.trans e1, h2⟩⟩
theorem Ext0.sqT (e : Ext0 μ H μ1 H1) {a : Addr} {vs : List V} (h : SqT K H a vs) : SqT K H1 a vs := by
  rcases h with (h | ⟨o, h⟩) | h
  · exact .inl (.inl (e.tup _ _ h))
  · exact .inl (.inr ⟨o, e.frz _ _ _ h⟩)
  · exact .inr h
end

theorem Ext0.sqN {K : PySem.W.Frag} {μ μ1 : List Addr} {H H1 : Hp} (e : Ext0 μ H μ1 H1) {a : Addr} {vs : List V} (h : SqN K H a vs) : SqN K H1 a vs := by
  rcases h with ⟨o, h, d⟩ | h
  · exact .inl ⟨o, e.frz _ _ _ h, d⟩
  · exact .inr h

section
variable {K : PySem.W.Frag} {μ μ1 : List Addr} {H H1 : Hp}
theorem Ext0.fzL (e : Ext0 μ H μ1 H1) {a : Addr} {vs : List V} (h : FzL K H a vs) : FzL K H1 a vs := by
  rcases h with ⟨o, h⟩ | h
  · exact .inl ⟨o, e.frz _ _ _ h⟩
  · exact .inr h
mutual
theorem RV.mono0 (e : Ext0 μ H μ1 H1) : ∀ {v : V} {d : D}, RV K μ H v d → RV K μ1 H1 v d
  | _, _, .non => .non
  | _, _, .bl b => .bl b
  | _, _, .int i => .int i
  | _, _, .str x => .str x
  | _, _, .tup h r => .tup (e.sqN h) (RVs.mono0 e r)
  | _, _, .pr h r => .pr (e.sqT h) (RVs.mono0 e r)
  | _, _, .fz h r => .fz (e.fzL h) (RVs.mono0 e r)
  | _, _, .lst h => .lst (e.pl _ _ h)
  | _, _, .dct h => .dct (e.pl _ _ h)
theorem RVs.mono0 (e : Ext0 μ H μ1 H1) : ∀ {vs : List V} {ds : List D}, RVs K μ H vs ds → RVs K μ1 H1 vs ds
  | _, _, .nil => .nil
  | _, _, .cons h r => .cons (RV.mono0 e h) (RVs.mono0 e r)
end
theorem RV.mono {v : V} {d : D} (h : RV K μ H v d) (e : Ext μ H μ1 H1) : RV K μ1 H1 v d := h.mono0 e.toExt0
theorem RVs.mono {vs : List V} {ds : List D} (h : RVs K μ H vs ds) (e : Ext μ H μ1 H1) : RVs K μ1 H1 vs ds := h.mono0 e.toExt0
theorem RVs.length : ∀ {vs : List V} {ds : List D}, RVs K μ H vs ds → vs.length = ds.length
  | _, _, .nil => rfl
  | _, _, .cons _ r => congrArg (· + 1) (RVs.length r)
theorem RVs.get : ∀ {vs : List V} {ds : List D} {i : Nat} {d : D}, RVs K μ H vs ds → ds[i]? = some d → ∃ v, vs[i]? = some v ∧ RV K μ H v d
  | _, _, _, _, .nil, e => by simp at e
  | _, _, 0, _, .cons h _, e => by
    obtain rfl := Option.some.inj e
    exact ⟨_, rfl, h⟩
  | _, _, i + 1, d, .cons _ r, e => by
    obtain ⟨v, e1, e2⟩ := RVs.get (i := i) (d := d) r (by simpa using e)
    exact ⟨v, by simpa using e1, e2⟩
theorem RVs.get' : ∀ {vs : List V} {ds : List D} {i : Nat} {v : V}, RVs K μ H vs ds → vs[i]? = some v → ∃ d, ds[i]? = some d ∧ RV K μ H v d
  | _, _, _, _, .nil, e => by simp at e
  | _, _, 0, _, .cons h _, e => by
    obtain rfl := Option.some.inj e
    exact ⟨_, rfl, h⟩
  | _, _, i + 1, v, .cons _ r, e => by
    obtain ⟨d, e1, e2⟩ := RVs.get' (i := i) (v := v) r (by simpa using e)
    exact ⟨d, by simpa using e1, e2⟩
theorem RVs.append : ∀ {vs : List V} {ds : List D} {ws : List V} {es : List D}, RVs K μ H vs ds → RVs K μ H ws es → RVs K μ H (vs ++ ws) (ds ++ es)
  | _, _, _, _, .nil, s => s
  | _, _, _, _, .cons h r, s => .cons h (RVs.append r s)
theorem RVs.set {v : V} {d : D} (h : RV K μ H v d) : ∀ {vs : List V} {ds : List D} (i : Nat), RVs K μ H vs ds → RVs K μ H (vs.set i v) (ds.set i d)
  | _, _, _, .nil => .nil
  | _, _, 0, .cons _ r => .cons h r
  | _, _, i + 1, .cons q r => .cons q (RVs.set h i r)
theorem RVs.take : ∀ {vs : List V} {ds : List D} (n : Nat), RVs K μ H vs ds → RVs K μ H (vs.take n) (ds.take n)
  | _, _, 0, _ => .nil
  | _, _, _ + 1, .nil => .nil
  | _, _, n + 1, .cons h r => .cons h (RVs.take n r)
theorem RVs.drop : ∀ {vs : List V} {ds : List D} (n : Nat), RVs K μ H vs ds → RVs K μ H (vs.drop n) (ds.drop n)
  | _, _, 0, r => r
  | _, _, _ + 1, .nil => .nil
  | _, _, n + 1, .cons _ r => RVs.drop n r
theorem RVs.eraseIdx : ∀ {vs : List V} {ds : List D} (i : Nat), RVs K μ H vs ds → RVs K μ H (vs.eraseIdx i) (ds.eraseIdx i)
  | _, _, _, .nil => .nil
  | _, _, 0, .cons _ r => r
  | _, _, i + 1, .cons h r => .cons h (RVs.eraseIdx i r)
theorem RVs.reverse {vs : List V} {ds : List D} (r : RVs K μ H vs ds) : RVs K μ H vs.reverse ds.reverse := by
  induction vs generalizing ds with
  | nil => cases r; exact .nil
  | cons v vs ih =>
    cases r with
    | cons h r =>
      rw [List.reverse_cons, List.reverse_cons]
      exact RVs.append (ih r) (.cons h .nil)
end

/-! ### keys -/
mutual
def keyD : NestedKey → D
  | .none => .non
  | .num i => .int i
  | .text x => .str x
  | .tup ks => .tup (keyDs ks)
def keyDs : List NestedKey → List D
  | [] => []
  | k :: ks => keyD k :: keyDs ks
end
mutual
def D.key : D → Option NestedKey
  | .non => some .none
  | .int i => some (.num i)
  | .str x => some (.text x)
  | .tup ds => (D.keys ds).map .tup
  | .bl _ => none
  | .fz _ => none
  | .pr _ => none
  | .lst _ => none
  | .dct _ => none
def D.keys : List D → Option (List NestedKey)
  | [] => some []
  | d :: ds => match D.key d, D.keys ds with
    | some k, some ks => some (k :: ks)
    | _, _ => none
end
mutual
theorem D.key_of : ∀ {d : D} {k : NestedKey}, D.key d = some k → keyD k = d
  | .non, _, h => by obtain rfl := Option.some.inj h; rfl
  | .int i, _, h => by obtain rfl := Option.some.inj h; rfl
  | .str x, _, h => by obtain rfl := Option.some.inj h; rfl
  | .tup ds, k, h => by
    rw [D.key] at h
    obtain ⟨ks, e, rfl⟩ := Option.map_eq_some_iff.mp h
    rw [keyD, D.keys_of e]
  | .bl _, _, h => by cases h
  | .fz _, _, h => by cases h
  | .pr _, _, h => by cases h
  | .lst _, _, h => by cases h
  | .dct _, _, h => by cases h
theorem D.keys_of : ∀ {ds : List D} {ks : List NestedKey}, D.keys ds = some ks → keyDs ks = ds
  | [], _, h => by obtain rfl := Option.some.inj h; rfl
  | d :: ds, ks, h => by
    rw [D.keys] at h
    cases e1 : D.key d with
    | none => rw [e1] at h; cases h
    | some k =>
      cases e2 : D.keys ds with
      | none => rw [e1, e2] at h; cases h
      | some r =>
        rw [e1, e2] at h
        obtain rfl := Option.some.inj h
        rw [keyDs, D.key_of e1, D.keys_of e2]
end
mutual
theorem key_keyD : ∀ k : NestedKey, D.key (keyD k) = some k
  | .none => rfl
  | .num _ => rfl
  | .text _ => rfl
  | .tup ks => by rw [keyD, D.key, keys_keyDs ks]; rfl
theorem keys_keyDs : ∀ ks : List NestedKey, D.keys (keyDs ks) = some ks
  | [] => rfl
  | k :: ks => by rw [keyDs, D.keys, key_keyD k, keys_keyDs ks]
end
/-- a key that is carried by value -/
def leafK : NestedKey → Bool
  | .tup _ => false
  | _ => true

/-! ### the store in the heap -/
/-- the dict at a, entry by entry -/
def dφ (a : Addr) (ents : List DictEntry) : Heap → Prop := fun h => ∃ o es ep, h.get? a = some o ∧ o.ExactDict ∧ o.data = .dict es ep ∧ es.toList = ents
def EntOk (w : World) (K : PySem.W.Frag) (μ : List Addr) (H : Hp) (e : DictEntry) (kv : NestedKey × D) : Prop :=
  e.hash = kv.1.hash w ∧ (∃ v, RelV v e.key ∧ RV K μ H v (keyD kv.1)) ∧ ∃ v, RelV v e.val ∧ RV K μ H v kv.2
def RO (w : World) (K : PySem.W.Frag) (μ : List Addr) (H : Hp) (a : Addr) : Ob → Prop
  | .lst ds => ∃ vs, H a = some (.lst vs) ∧ RVs K μ H vs ds
  | .dct kvs => (a == sysModules) = false ∧ kvs.length ≤ sizeLine ∧ (kvs.map (·.1)).Nodup ∧ ((∀ kv ∈ kvs, leafK kv.1 = true) ∨ ∀ kv ∈ kvs, leafK kv.1 = false) ∧ (∀ kv ∈ kvs, kv.1.depth ≤ 8) ∧
      ∃ ents, H a = some (.ext (dφ a ents)) ∧ Paired (EntOk w K μ H) ents kvs
  | .dlk kvs => (a == sysModules) = false ∧ kvs.length ≤ sizeLine ∧ (kvs.map (·.1)).Nodup ∧ ((∀ kv ∈ kvs, leafK kv.1 = true) ∨ ∀ kv ∈ kvs, leafK kv.1 = false) ∧ (∀ kv ∈ kvs, kv.1.depth ≤ 8) ∧
      ∃ ents, (∃ od : Obj, H a = some (.frz od (.ext (dφ a ents)))) ∧ Paired (EntOk w K μ H) ents kvs
/-- a dict that may be read -/
def ROR (w : World) (K : PySem.W.Frag) (μ : List Addr) (H : Hp) (a : Addr) (kvs : List (NestedKey × D)) : Prop :=
  (a == sysModules) = false ∧ kvs.length ≤ sizeLine ∧ (kvs.map (·.1)).Nodup ∧ ((∀ kv ∈ kvs, leafK kv.1 = true) ∨ ∀ kv ∈ kvs, leafK kv.1 = false) ∧ (∀ kv ∈ kvs, kv.1.depth ≤ 8) ∧
    ∃ ents, (H a = some (.ext (dφ a ents)) ∨ ∃ od : Obj, H a = some (.frz od (.ext (dφ a ents)))) ∧ Paired (EntOk w K μ H) ents kvs
theorem RO.ror {w : World} {K : PySem.W.Frag} {μ : List Addr} {H : Hp} {a : Addr} {kvs : List (NestedKey × D)} (h : RO w K μ H a (.dct kvs)) : ROR w K μ H a kvs := by
  obtain ⟨h1, h2, h3, h4, h4', ents, h5, h6⟩ := h
  exact ⟨h1, h2, h3, h4, h4', ents, .inl h5, h6⟩
theorem RO.rorL {w : World} {K : PySem.W.Frag} {μ : List Addr} {H : Hp} {a : Addr} {kvs : List (NestedKey × D)} (h : RO w K μ H a (.dlk kvs)) : ROR w K μ H a kvs := by
  obtain ⟨h1, h2, h3, h4, h4', ents, h5, h6⟩ := h
  exact ⟨h1, h2, h3, h4, h4', ents, .inr h5, h6⟩
structure Rel (w : World) (K : PySem.W.Frag) (μ : List Addr) (H : Hp) (S : Store) : Prop where
  len : μ.length = S.length
  nd : μ.Nodup
  ob : ∀ (l : Nat) (o : Ob), S[l]? = some o → ∃ a, μ[l]? = some a ∧ RO w K μ H a o
def RE (K : PySem.W.Frag) (μ : List Addr) (H : Hp) (σ : L2.St) (ρ : Env) : Prop :=
  σ.length = ρ.length ∧ ∀ (i : Nat) (d : D), ρ[i]? = some (some d) → ∃ v, σ[i]? = some (some v) ∧ RV K μ H v d

section
variable {w : World} {K : PySem.W.Frag} {μ μ1 : List Addr} {H H1 : Hp} {S : Store}
theorem EntOk.mono0 (e : Ext0 μ H μ1 H1) {en : DictEntry} {kv : NestedKey × D} (h : EntOk w K μ H en kv) : EntOk w K μ1 H1 en kv := by
  obtain ⟨h1, ⟨v, h2, h3⟩, u, h4, h5⟩ := h
  exact ⟨h1, ⟨v, h2, h3.mono0 e⟩, u, h4, h5.mono0 e⟩
theorem RO.mono0 (e : Ext0 μ H μ1 H1) {a : Addr} (ha : H1 a = H a) {o : Ob} (h : RO w K μ H a o) : RO w K μ1 H1 a o := by
  cases o with
  | lst ds =>
    obtain ⟨vs, h1, h2⟩ := h
    exact ⟨vs, ha.trans h1, h2.mono0 e⟩
  | dct kvs =>
    obtain ⟨h1, h2, h3, h4, h4', ents, h5, h6⟩ := h
    exact ⟨h1, h2, h3, h4, h4', ents, ha.trans h5, Paired.mapP h6 fun _ _ q => q.mono0 e⟩
  | dlk kvs =>
    obtain ⟨h1, h2, h3, h4, h4', ents, ⟨od, h5⟩, h6⟩ := h
    exact ⟨h1, h2, h3, h4, h4', ents, ⟨od, ha.trans h5⟩, Paired.mapP h6 fun _ _ q => q.mono0 e⟩
theorem RO.there {a : Addr} {o : Ob} (h : RO w K μ H a o) : ∃ u, H a = some u ∧ True := by
  cases o with
  | lst ds => obtain ⟨vs, h1, _⟩ := h; exact ⟨_, h1, trivial⟩
  | dct kvs => obtain ⟨_, _, _, _, _, ents, h5, _⟩ := h; exact ⟨_, h5, trivial⟩
  | dlk kvs => obtain ⟨_, _, _, _, _, ents, ⟨od, h5⟩, _⟩ := h; exact ⟨_, h5, trivial⟩
theorem RE.mono0 {σ : L2.St} {ρ : Env} (h : RE K μ H σ ρ) (e : Ext0 μ H μ1 H1) : RE K μ1 H1 σ ρ :=
  ⟨h.1, fun i d q => let ⟨v, h1, h2⟩ := h.2 i d q; ⟨v, h1, h2.mono0 e⟩⟩
theorem RE.mono {σ : L2.St} {ρ : Env} (h : RE K μ H σ ρ) (e : Ext μ H μ1 H1) : RE K μ1 H1 σ ρ := h.mono0 e.toExt0
theorem Rel.at (R : Rel w K μ H S) {l : Nat} {a : Addr} (h : μ[l]? = some a) : ∃ o, S[l]? = some o ∧ RO w K μ H a o := by
  have hl : l < S.length := by rw [← R.len]; exact (List.getElem?_eq_some_iff.mp h).1
  obtain ⟨a', h1, h2⟩ := R.ob l S[l] (List.getElem?_eq_getElem hl)
  rw [h] at h1
  obtain rfl := Option.some.inj h1
  exact ⟨_, List.getElem?_eq_getElem hl, h2⟩
theorem Rel.mem (R : Rel w K μ H S) {a : Addr} (h : a ∈ μ) : ∃ u, H a = some u ∧ True := by
  obtain ⟨l, hl⟩ := List.getElem?_of_mem h
  obtain ⟨o, _, h2⟩ := R.at hl
  exact h2.there
/-- the heap grows elsewhere -/
theorem Rel.grow (R : Rel w K μ H S) (e : Ext0 μ H μ H1) (ha : ∀ a ∈ μ, H1 a = H a) : Rel w K μ H1 S :=
  ⟨R.len, R.nd, fun l o q => let ⟨a, h1, h2⟩ := R.ob l o q; ⟨a, h1, h2.mono0 e (ha a (List.mem_of_getElem? h1))⟩⟩
theorem ext_upd {a : Addr} {o : HO} (hn : H a = none) : Ext μ H μ (upd H a o) :=
  ⟨⟨fun _ _ h => h, fun b vs h => by rw [upd_ne (ne_of_none h hn)]; exact h, fun b ob u h => by rw [upd_ne (ne_of_none h hn)]; exact h⟩, fun p h n => ⟨upd_ne fun e => n (e ▸ hn), h⟩⟩
/-- an untracked new object -/
theorem Rel.new (R : Rel w K μ H S) {a : Addr} {o : HO} (hn : H a = none) : Rel w K μ (upd H a o) S :=
  R.grow (ext_upd hn).toExt0 fun b hb => upd_ne fun e => by
    obtain ⟨u, h1, _⟩ := R.mem hb
    rw [e, hn] at h1
    cases h1
theorem ext_alloc {a : Addr} {o : HO} (hn : H a = none) : Ext μ H (μ ++ [a]) (upd H a o) :=
  ⟨⟨fun l b h => by rw [List.getElem?_append_left (List.getElem?_eq_some_iff.mp h).1]; exact h, (ext_upd (μ := μ) hn).tup, (ext_upd (μ := μ) hn).frz⟩, fun p h n => by
    have ne : p ≠ a := fun e => n (e ▸ hn)
    exact ⟨upd_ne ne, fun hm => (List.mem_append.mp hm).elim h fun z => ne (List.mem_singleton.mp z)⟩⟩
/-- a new place -/
theorem Rel.alloc (R : Rel w K μ H S) {a : Addr} {o : HO} {ob : Ob} (hn : H a = none) (h : RO w K (μ ++ [a]) (upd H a o) a ob) : Rel w K (μ ++ [a]) (upd H a o) (S ++ [ob]) := by
  have e := ext_alloc (μ := μ) (o := o) hn
  have nm : a ∉ μ := fun hm => by
    obtain ⟨u, h1, _⟩ := R.mem hm
    rw [hn] at h1
    cases h1
  refine ⟨by rw [List.length_append, List.length_append, R.len]; rfl, ?_, fun l o' q => ?_⟩
  · rw [List.nodup_append]
    exact ⟨R.nd, by simp, fun x hx y hy => by
      rw [List.mem_singleton] at hy
      subst hy
      exact fun z => nm (z ▸ hx)⟩
  · by_cases hl : l < S.length
    · rw [List.getElem?_append_left hl] at q
      obtain ⟨b, h1, h2⟩ := R.ob l o' q
      refine ⟨b, e.pl _ _ h1, h2.mono0 e.toExt0 (upd_ne fun z => nm (z ▸ List.mem_of_getElem? h1))⟩
    · have hl2 : l = S.length := by
        have := (List.getElem?_eq_some_iff.mp q).1
        rw [List.length_append] at this
        have e1 : ([ob] : List Ob).length = 1 := rfl
        omega
      subst hl2
      rw [List.getElem?_append_right (Nat.le_refl _), Nat.sub_self] at q
      obtain rfl := Option.some.inj q
      refine ⟨a, ?_, h⟩
      rw [← R.len, List.getElem?_append_right (Nat.le_refl _), Nat.sub_self]
      rfl
/-- a place written -/
theorem ext_set {a : Addr} {o u : HO} (ha : a ∈ μ) (hu : H a = some u) (mu : Mut (some u)) : Ext μ H μ (upd H a o) := by
  refine ⟨⟨fun _ _ h => h, fun b vs h => ?_, fun b ob v h => ?_⟩, fun p h n => ⟨upd_ne fun e => h (e ▸ ha), h⟩⟩
  · rw [upd_ne (ne_of h hu fun z => by subst z; exact mu)]
    exact h
  · rw [upd_ne (ne_of h hu fun z => by subst z; exact mu)]
    exact h
theorem Rel.set (R : Rel w K μ H S) {l : Nat} {a : Addr} {o u : HO} {ob : Ob} (hl : μ[l]? = some a) (hu : H a = some u) (mu : Mut (some u)) (h : RO w K μ (upd H a o) a ob) : Rel w K μ (upd H a o) (S.set l ob) := by
  obtain ⟨ob0, q0, r0⟩ := R.at hl
  have e := ext_set (μ := μ) (o := o) (List.mem_of_getElem? hl) hu mu
  refine ⟨by rw [List.length_set]; exact R.len, R.nd, fun l' o' q => ?_⟩
  by_cases hll : l' = l
  · subst hll
    rw [List.getElem?_set_self (List.getElem?_eq_some_iff.mp q0).1] at q
    obtain rfl := Option.some.inj q
    exact ⟨a, hl, h⟩
  · rw [List.getElem?_set_ne (Ne.symm hll)] at q
    obtain ⟨b, h1, h2⟩ := R.ob l' o' q
    refine ⟨b, h1, h2.mono0 e.toExt0 (upd_ne fun z => hll ?_)⟩
    subst z
    obtain ⟨i1, e1⟩ := List.getElem?_eq_some_iff.mp h1
    obtain ⟨i2, e2⟩ := List.getElem?_eq_some_iff.mp hl
    exact (List.getElem_inj R.nd).mp (e1.trans e2.symm)
end

/-! ### what a machine's answer says of the model: the lifts -/
abbrev EM := Env → M D
abbrev AM := Env → M (List D)
abbrev TM := Env → M Bool
inductive Out where
  | nx (ρ : Env)
  | bk (ρ : Env)
  | ct (ρ : Env)
  | rt (d : D)
abbrev SM := Env → M Out
abbrev GM := D → Env → M Env
abbrev GMs := List D → Env → M Env

/-- slots outside vs are the same -/
def Off (vs : List Nat) (σ σ' : L2.St) : Prop := σ'.length = σ.length ∧ ∀ i, i ∉ vs → σ'[i]? = σ[i]?
theorem Off.refl {vs : List Nat} {σ : L2.St} : Off vs σ σ := ⟨rfl, fun _ _ => rfl⟩
theorem Off.set {i : Nat} {σ : L2.St} {x : Option V} : Off [i] σ (σ.set i x) := ⟨List.length_set, fun j hj => List.getElem?_set_ne fun e => hj (by rw [e]; exact List.mem_singleton.mpr rfl)⟩
theorem Off.trans {vs ws : List Nat} {σ σ1 σ2 : L2.St} (a : Off vs σ σ1) (b : Off ws σ1 σ2) : Off (vs ++ ws) σ σ2 :=
  ⟨b.1.trans a.1, fun i hi => (b.2 i fun h => hi (List.mem_append_right _ h)).trans (a.2 i fun h => hi (List.mem_append_left _ h))⟩
theorem wipe_at (σ : L2.St) (i : Nat) : ∀ vs : List Nat, i ∈ vs → i < σ.length → (L2.wipe σ vs)[i]? = some none
  | [], h, _ => by cases h
  | v :: vs, h, hl => by
    unfold L2.wipe
    by_cases e : v = i
    · subst e
      exact List.getElem?_set_self (by rw [L2.wipe_length]; exact hl)
    · rw [List.getElem?_set_ne e]
      exact wipe_at σ i vs ((List.mem_cons.mp h).resolve_left fun z => e z.symm) hl
theorem Off.wipe {vs ws : List Nat} {σ σ' : L2.St} (a : Off vs σ σ') (hs : ∀ i ∈ vs, i ∈ ws) : L2.wipe σ' ws = L2.wipe σ ws := by
  refine List.ext_getElem? fun i => ?_
  by_cases hi : i ∈ ws
  · by_cases hl : i < σ.length
    · rw [wipe_at σ i ws hi hl, wipe_at σ' i ws hi (by rw [a.1]; exact hl)]
    · rw [List.getElem?_eq_none (by rw [L2.wipe_length, a.1]; omega), List.getElem?_eq_none (by rw [L2.wipe_length]; omega)]
  · rw [L2.wipe_out hi, L2.wipe_out hi, a.2 i fun h => hi (hs i h)]

section
variable (w : World) (K : PySem.W.Frag)
/-- behind: the new place map, heap, store; the value -/
def Post (μ : List Addr) (H : Hp) (S' : Store) (d : D) (Q : VK) : Prop := ∀ μ' H' v, Ext μ H μ' H' → Rel w K μ' H' S' → RV K μ' H' v d → Q v H'
def lE (m : EM) : TE := fun σ H Q => ∃ μ S ρ d S', Rel w K μ H S ∧ RE K μ H σ ρ ∧ m ρ S = some (d, S') ∧ Post w K μ H S' d Q
def lA (m : AM) : TA := fun σ H Q => ∃ μ S ρ ds S', Rel w K μ H S ∧ RE K μ H σ ρ ∧ m ρ S = some (ds, S') ∧ ∀ μ' H' vs, Ext μ H μ' H' → Rel w K μ' H' S' → RVs K μ' H' vs ds → Q vs H'
def lT (m : TM) : TT := fun σ H Q => ∃ μ S ρ b S', Rel w K μ H S ∧ RE K μ H σ ρ ∧ m ρ S = some (b, S') ∧ ∀ μ' H', Ext μ H μ' H' → Rel w K μ' H' S' → Q b H'
def OutP (μ : List Addr) (H : Hp) (S' : Store) (D : Ends) : Out → Prop
  | .nx ρ' => ∀ μ' H' σ', Ext μ H μ' H' → Rel w K μ' H' S' → RE K μ' H' σ' ρ' → D.nx σ' H'
  | .bk ρ' => ∀ μ' H' σ', Ext μ H μ' H' → Rel w K μ' H' S' → RE K μ' H' σ' ρ' → D.bk σ' H'
  | .ct ρ' => ∀ μ' H' σ', Ext μ H μ' H' → Rel w K μ' H' S' → RE K μ' H' σ' ρ' → D.ct σ' H'
  | .rt d => Post w K μ H S' d D.rt
def lS (m : SM) : TS := fun D σ H => ∃ μ S ρ o S', Rel w K μ H S ∧ RE K μ H σ ρ ∧ m ρ S = some (o, S') ∧ OutP w K μ H S' D o
def lG (vs : List Nat) (m : GM) : TG := fun v σ H Q => ∃ μ S ρ d ρ' S', Rel w K μ H S ∧ RE K μ H σ ρ ∧ RV K μ H v d ∧ m d ρ S = some (ρ', S') ∧ ∀ μ' H' σ', Ext μ H μ' H' → Rel w K μ' H' S' → RE K μ' H' σ' ρ' → Off vs σ σ' → Q σ' H'
def lGs (sl : List Nat) (m : GMs) : TGs := fun vs σ H Q => ∃ μ S ρ ds ρ' S', Rel w K μ H S ∧ RE K μ H σ ρ ∧ RVs K μ H vs ds ∧ m ds ρ S = some (ρ', S') ∧ ∀ μ' H' σ', Ext μ H μ' H' → Rel w K μ' H' S' → RE K μ' H' σ' ρ' → Off sl σ σ' → Q σ' H'
/-- by values -/
def lR2 (g : D → D → M D) : R2 := fun x y H Q => ∃ μ S d1 d2 d S', Rel w K μ H S ∧ RV K μ H x d1 ∧ RV K μ H y d2 ∧ g d1 d2 S = some (d, S') ∧ Post w K μ H S' d Q
def lR1 (g : D → M D) : V → Hp → VK → Prop := fun x H Q => ∃ μ S d1 d S', Rel w K μ H S ∧ RV K μ H x d1 ∧ g d1 S = some (d, S') ∧ Post w K μ H S' d Q
def lRs (g : List D → M D) : List V → Hp → VK → Prop := fun xs H Q => ∃ μ S ds d S', Rel w K μ H S ∧ RVs K μ H xs ds ∧ g ds S = some (d, S') ∧ Post w K μ H S' d Q
def lRm (g : D → List D → M D) : V → List V → Hp → VK → Prop := fun x xs H Q => ∃ μ S d1 ds d S', Rel w K μ H S ∧ RV K μ H x d1 ∧ RVs K μ H xs ds ∧ g d1 ds S = some (d, S') ∧ Post w K μ H S' d Q
end

section
variable {w : World} {K : PySem.W.Frag} {μ μ1 : List Addr} {H H1 : Hp} {S S1 S' : Store} {σ : L2.St} {ρ : Env}
theorem Post.step {d : D} {Q : VK} (e : Ext μ H μ1 H1) (p : Post w K μ H S' d Q) : Post w K μ1 H1 S' d Q := fun μ' H' v e' r q => p μ' H' v (e.trans e') r q
theorem OutP.step {D : Ends} {o : Out} (e : Ext μ H μ1 H1) (p : OutP w K μ H S' D o) : OutP w K μ1 H1 S' D o := by
  cases o with
  | nx ρ' => exact fun μ' H' σ' e' => p μ' H' σ' (e.trans e')
  | bk ρ' => exact fun μ' H' σ' e' => p μ' H' σ' (e.trans e')
  | ct ρ' => exact fun μ' H' σ' e' => p μ' H' σ' (e.trans e')
  | rt d => exact Post.step e p
theorem RE.get {i : Nat} {d : D} (h : RE K μ H σ ρ) (e : ρ[i]? = some (some d)) : ∃ v, σ[i]? = some (some v) ∧ RV K μ H v d := h.2 i d e
theorem RE.set {i : Nat} {d : D} {v : V} (h : RE K μ H σ ρ) (r : RV K μ H v d) : RE K μ H (σ.set i (some v)) (ρ.set i (some d)) := by
  refine ⟨by rw [List.length_set, List.length_set]; exact h.1, fun j d' e => ?_⟩
  by_cases hj : i = j
  · subst hj
    have hl : i < ρ.length := by
      have := (List.getElem?_eq_some_iff.mp e).1
      rwa [List.length_set] at this
    rw [List.getElem?_set_self hl] at e
    obtain rfl := Option.some.inj (Option.some.inj e)
    exact ⟨v, List.getElem?_set_self (by rw [h.1]; exact hl), r⟩
  · rw [List.getElem?_set_ne hj] at e
    rw [List.getElem?_set_ne hj]
    exact h.2 j d' e
theorem RE.wipe (h : RE K μ H σ ρ) (vs : List Nat) : RE K μ H (L2.wipe σ vs) (vs.foldr (fun i (r : Env) => r.set i none) ρ) := by
  induction vs with
  | nil => exact h
  | cons i vs ih =>
    unfold L2.wipe
    rw [List.foldr_cons]
    refine ⟨by rw [List.length_set, List.length_set]; exact ih.1, fun j d' e => ?_⟩
    by_cases hj : i = j
    · subst hj
      have hl : i < (vs.foldr (fun i (r : Env) => r.set i none) ρ).length := by
        have := (List.getElem?_eq_some_iff.mp e).1
        rwa [List.length_set] at this
      rw [List.getElem?_set_self hl] at e
      cases Option.some.inj e
    · rw [List.getElem?_set_ne hj] at e
      rw [List.getElem?_set_ne hj]
      exact ih.2 j d' e
end

/-! ### weakening -/
section
variable {X : Cx} {e : Expr}
theorem pe_imp {t t' : TE} (h : PE X e t) (hi : ∀ σ H Q, t' σ H Q → t σ H Q) : PE X e t' := ⟨fun pins s σ H Q I q => h.run pins s σ H Q I (hi σ H Q q)⟩
theorem pt_imp {t t' : TT} (h : PT X e t) (hi : ∀ σ H Q, t' σ H Q → t σ H Q) : PT X e t' := ⟨fun pins s σ H Q I q => h.run pins s σ H Q I (hi σ H Q q)⟩
theorem pw_imp {t t' : TT} (h : PW X e t) (hi : ∀ σ H Q, t' σ H Q → t σ H Q) : PW X e t' := ⟨fun wh pins s σ H Q I q => h.run wh pins s σ H Q I (hi σ H Q q)⟩
theorem pa_imp {es : List Expr} {t t' : TA} (h : PA X es t) (hi : ∀ σ H Q, t' σ H Q → t σ H Q) : PA X es t' := ⟨fun pos pins s σ H Q I q => h.run pos pins s σ H Q I (hi σ H Q q)⟩
theorem ps_imp {st : Stmt} {t t' : TS} (h : PS X st t) (hi : ∀ D σ H, t' D σ H → t D σ H) : PS X st t' := ⟨fun pins s σ H D I q => h.run pins s σ H D I (hi D σ H q)⟩
theorem pss_imp {st : List Stmt} {t t' : TS} (h : PSs X st t) (hi : ∀ D σ H, t' D σ H → t D σ H) : PSs X st t' := ⟨fun pins s σ H D I q => h.run pins s σ H D I (hi D σ H q)⟩
theorem pg_imp {t t' : TG} (h : PG X e t) (hi : ∀ v σ H Q, t' v σ H Q → t v σ H Q) : PG X e t' := ⟨fun pins s σ H v u Q I r q => h.run pins s σ H v u Q I r (hi v σ H Q q)⟩
theorem pgs_imp {es : List Expr} {t t' : TGs} (h : PGs X es t) (hi : ∀ v σ H Q, t' v σ H Q → t v σ H Q) : PGs X es t' := ⟨fun pins s σ H v u Q I r q => h.run pins s σ H v u Q I r (hi v σ H Q q)⟩
theorem op_imp {f : Value → Value → Sem Value} {r r' : R2} (h : OpR X f r) (hi : ∀ x y H Q, r' x y H Q → r x y H Q) : OpR X f r' := fun pins s σ H x y v u Q I rx ry q => h pins s σ H x y v u Q I rx ry (hi x y H Q q)
end
end VM

/-! VM2: expressions -/
namespace VM
open PySem PySem.Spec PyProof.Rows L2

/-! ### machines for expressions -/
def mVar (i : Nat) : EM := fun ρ S => match ρ[i]? with
  | some (some d) => some (d, S)
  | _ => none
def mC (d : D) : EM := fun _ S => some (d, S)
def m1 (g : D → M D) (ma : EM) : EM := fun ρ => bnd (ma ρ) g
def m2 (g : D → D → M D) (ma mb : EM) : EM := fun ρ => bnd (ma ρ) fun a => bnd (mb ρ) fun b => g a b
def aNil : AM := fun _ => ret []
def aCons (ma : EM) (mr : AM) : AM := fun ρ => bnd (ma ρ) fun a => bnd (mr ρ) fun r => ret (a :: r)
def mFn (f : List D → M D) (ma : AM) : EM := fun ρ => bnd (ma ρ) f
def mMt (f : D → List D → M D) (mo : EM) (ma : AM) : EM := fun ρ => bnd (mo ρ) fun o => bnd (ma ρ) fun a => f o a
def mMt0 (f : D → List D → M D) (mo : EM) : EM := fun ρ => bnd (mo ρ) fun o => f o []
def mIf (t : TM) (ma mb : EM) : EM := fun ρ => bnd (t ρ) fun b => if b = true then ma ρ else mb ρ
def lim : Nat := 1000000
theorem lim_le : lim ≤ sizeLine := by rw [sizeLine_eq]; decide
def mkT (ds : List D) : M D := fun S => if ds.length ≤ lim then some (.tup ds, S) else none
def mkL (ds : List D) : M D := fun S => if ds.length ≤ lim then some (.lst S.length, S ++ [.lst ds]) else none
/-- tests -/
def tV (ma : EM) : TM := fun ρ => bnd (ma ρ) fun d => match d with
  | .bl b => ret b
  | _ => fail
def tNt (t : TM) : TM := fun ρ => bnd (t ρ) fun b => ret (!b)
def tAn (t u : TM) : TM := fun ρ => bnd (t ρ) fun b => if b = true then u ρ else ret false
def tOrr (t u : TM) : TM := fun ρ => bnd (t ρ) fun b => if b = true then ret true else u ρ

section
variable {w : World} {K : PySem.W.Frag} {μ : List Addr} {H : Hp} {S S' : Store} {σ : L2.St} {ρ : Env}
theorem post_val {d : D} {v : V} {Q : VK} (R : Rel w K μ H S) (r : RV K μ H v d) (P : Post w K μ H S d Q) : Q v H := P μ H v Ext.refl R r
theorem post_new {a : Addr} {u : HO} {d : D} {v : V} {Q : VK} (R : Rel w K μ H S) (hn : H a = none) (r : RV K μ (upd H a u) v d) (P : Post w K μ H S d Q) : Q v (upd H a u) :=
  P μ _ v (ext_upd hn) (R.new hn) r
theorem post_alloc {a : Addr} {u : HO} {ob : Ob} {d : D} {Q : VK} (R : Rel w K μ H S) (hn : H a = none) (h : RO w K (μ ++ [a]) (upd H a u) a ob) (hd : RV K (μ ++ [a]) (upd H a u) (.ref a) d) (P : Post w K μ H (S ++ [ob]) d Q) : Q (.ref a) (upd H a u) :=
  P _ _ _ (ext_alloc hn) (R.alloc hn h) hd
theorem pl_last {a : Addr} (R : Rel w K μ H S) : (μ ++ [a])[S.length]? = some a := by
  rw [← R.len, List.getElem?_append_right (Nat.le_refl _), Nat.sub_self]
  rfl
theorem post_list {a : Addr} {vs : List V} {ds : List D} {Q : VK} (R : Rel w K μ H S) (hn : H a = none) (r : RVs K μ H vs ds) (P : Post w K μ H (S ++ [.lst ds]) (.lst S.length) Q) : Q (.ref a) (upd H a (.lst vs)) :=
  post_alloc (ob := .lst ds) R hn ⟨vs, upd_same, r.mono (ext_alloc hn)⟩ (.lst (pl_last R)) P
theorem post_set {a : Addr} {l : Nat} {u u0 : HO} {ob : Ob} {d : D} {v : V} {Q : VK} (R : Rel w K μ H S) (hl : μ[l]? = some a) (hu : H a = some u0) (mu : Mut (some u0)) (h : RO w K μ (upd H a u) a ob) (hd : RV K μ (upd H a u) v d) (P : Post w K μ H (S.set l ob) d Q) : Q v (upd H a u) := by
  exact P μ _ _ (ext_set (List.mem_of_getElem? hl) hu mu) (R.set hl hu mu h) hd

theorem lE_c {m : EM} {Q : VK} {v : V} {d : D} (hm : ∀ ρ S, m ρ S = some (d, S)) (hv : ∀ μ H, RV K μ H v d) (h : lE w K m σ H Q) : Q v H := by
  obtain ⟨μ, S, ρ, d', S', R, E, e, P⟩ := h
  rw [hm] at e
  obtain ⟨rfl, rfl⟩ := Prod.mk.inj (Option.some.inj e)
  exact post_val R (hv μ H) P
theorem lE_m1 {g : D → M D} {ma : EM} {Q : VK} (h : lE w K (m1 g ma) σ H Q) : lE w K ma σ H fun x H1 => lR1 w K g x H1 Q := by
  obtain ⟨μ, S, ρ, d, S', R, E, e, P⟩ := h
  obtain ⟨a, S1, e1, e2⟩ := bnd_some e
  exact ⟨μ, S, ρ, a, S1, R, E, e1, fun μ1 H1 v x1 R1 r1 => ⟨μ1, S1, a, d, S', R1, r1, e2, P.step x1⟩⟩
theorem lE_m2 {g : D → D → M D} {ma mb : EM} {Q : VK} (h : lE w K (m2 g ma mb) σ H Q) : lE w K ma σ H fun x H1 => lE w K mb σ H1 fun y H2 => lR2 w K g x y H2 Q := by
  obtain ⟨μ, S, ρ, d, S', R, E, e, P⟩ := h
  obtain ⟨a, S1, e1, e2⟩ := bnd_some e
  obtain ⟨b, S2, e3, e4⟩ := bnd_some e2
  exact ⟨μ, S, ρ, a, S1, R, E, e1, fun μ1 H1 v x1 R1 r1 => ⟨μ1, S1, ρ, b, S2, R1, E.mono x1, e3, fun μ2 H2 u x2 R2 r2 => ⟨μ2, S2, a, b, d, S', R2, r1.mono x2, r2, e4, P.step (x1.trans x2)⟩⟩⟩
theorem lA_cons {ma : EM} {mr : AM} {Q : List V → Hp → Prop} (h : lA w K (aCons ma mr) σ H Q) : lE w K ma σ H fun x H1 => lA w K mr σ H1 fun xs H2 => Q (x :: xs) H2 := by
  obtain ⟨μ, S, ρ, d, S', R, E, e, P⟩ := h
  obtain ⟨a, S1, e1, e2⟩ := bnd_some e
  obtain ⟨b, S2, e3, e4⟩ := bnd_some e2
  obtain ⟨rfl, rfl⟩ := Prod.mk.inj (Option.some.inj e4)
  exact ⟨μ, S, ρ, a, S1, R, E, e1, fun μ1 H1 v x1 R1 r1 => ⟨μ1, S1, ρ, b, S2, R1, E.mono x1, e3, fun μ2 H2 u x2 R2 r2 => P μ2 H2 _ (x1.trans x2) R2 (.cons (r1.mono x2) r2)⟩⟩
theorem lE_fn {f : List D → M D} {ma : AM} {Q : VK} (h : lE w K (mFn f ma) σ H Q) : lA w K ma σ H fun xs H1 => lRs w K f xs H1 Q := by
  obtain ⟨μ, S, ρ, d, S', R, E, e, P⟩ := h
  obtain ⟨a, S1, e1, e2⟩ := bnd_some e
  exact ⟨μ, S, ρ, a, S1, R, E, e1, fun μ1 H1 v x1 R1 r1 => ⟨μ1, S1, a, d, S', R1, r1, e2, P.step x1⟩⟩
theorem lE_mt {f : D → List D → M D} {mo : EM} {ma : AM} {Q : VK} (h : lE w K (mMt f mo ma) σ H Q) : lE w K mo σ H fun x H1 => lA w K ma σ H1 fun xs H2 => lRm w K f x xs H2 Q := by
  obtain ⟨μ, S, ρ, d, S', R, E, e, P⟩ := h
  obtain ⟨a, S1, e1, e2⟩ := bnd_some e
  obtain ⟨b, S2, e3, e4⟩ := bnd_some e2
  exact ⟨μ, S, ρ, a, S1, R, E, e1, fun μ1 H1 v x1 R1 r1 => ⟨μ1, S1, ρ, b, S2, R1, E.mono x1, e3, fun μ2 H2 u x2 R2 r2 => ⟨μ2, S2, a, b, d, S', R2, r1.mono x2, r2, e4, P.step (x1.trans x2)⟩⟩⟩
theorem lE_if {t : TM} {ma mb : EM} {Q : VK} (h : lE w K (mIf t ma mb) σ H Q) : lT w K t σ H fun b H1 => if b = true then lE w K ma σ H1 Q else lE w K mb σ H1 Q := by
  obtain ⟨μ, S, ρ, d, S', R, E, e, P⟩ := h
  obtain ⟨b, S1, e1, e2⟩ := bnd_some e
  refine ⟨μ, S, ρ, b, S1, R, E, e1, fun μ1 H1 x1 R1 => ?_⟩
  cases b with
  | true => exact ⟨μ1, S1, ρ, d, S', R1, E.mono x1, e2, P.step x1⟩
  | false => exact ⟨μ1, S1, ρ, d, S', R1, E.mono x1, e2, P.step x1⟩
theorem lT_v {ma : EM} {Q : Bool → Hp → Prop} (h : lT w K (tV ma) σ H Q) : lE w K ma σ H fun x H1 => ∃ k, x = .bl k ∧ Q k H1 := by
  obtain ⟨μ, S, ρ, d, S', R, E, e, P⟩ := h
  obtain ⟨a, S1, e1, e2⟩ := bnd_some e
  refine ⟨μ, S, ρ, a, S1, R, E, e1, fun μ1 H1 v x1 R1 r1 => ?_⟩
  cases r1 with
  | bl b =>
    obtain ⟨rfl, rfl⟩ := Prod.mk.inj (Option.some.inj e2)
    exact ⟨_, rfl, P μ1 H1 x1 R1⟩
  | _ => cases e2
end

/-! ### rules -/
section
variable {X : Cx} {pos : Pos} {a b c : Expr} {ma mb mc : EM}
theorem e_var (i : Nat) {x : Str} (hN : X.N[i]? = some x := by rfl) (hv : Vis X.env.scope x := by first | exact Or.inl rfl | exact Or.inr (Or.inl rfl) | exact Or.inr (Or.inr rfl)) (hd : (x == ("__debug__" : Str)) = false := by decide)
    (hcd : (x == ("__classdict__" : Str)) = false := by decide) : PE X (.Name x pos) (lE X.w X.K (mVar i)) := by
  refine pe_imp (pe_var hN hv hd hcd) fun σ H Q h => ?_
  obtain ⟨μ, S, ρ, d, S', R, E, e, P⟩ := h
  unfold mVar at e
  split at e
  · rename_i d' hd'
    obtain ⟨rfl, rfl⟩ := Prod.mk.inj (Option.some.inj e)
    obtain ⟨v, h1, h2⟩ := E.get hd'
    exact ⟨v, h1, post_val R h2 P⟩
  · cases e
theorem e_int {i : Int} {j : Nat} : PE X (.Constant (.int i) j pos) (lE X.w X.K (mC (.int i))) := pe_imp pe_int fun _ _ _ h => lE_c (fun _ _ => rfl) (fun _ _ => .int i) h
theorem e_bl {i : Bool} {j : Nat} : PE X (.Constant (.bool i) j pos) (lE X.w X.K (mC (.bl i))) := pe_imp pe_bl fun _ _ _ h => lE_c (fun _ _ => rfl) (fun _ _ => .bl i) h
theorem e_non {j : Nat} : PE X (.Constant .none j pos) (lE X.w X.K (mC .non)) := pe_imp pe_non fun _ _ _ h => lE_c (fun _ _ => rfl) (fun _ _ => .non) h
theorem e_str {i : Str} {j : Nat} : PE X (.Constant (.str i) j pos) (lE X.w X.K (mC (.str i))) := pe_imp pe_str fun _ _ _ h => lE_c (fun _ _ => rfl) (fun _ _ => .str i) h
theorem a_nil : PA X [] (lA X.w X.K aNil) := pa_imp pa_nil fun σ H Q h => by
  obtain ⟨μ, S, ρ, d, S', R, E, e, P⟩ := h
  obtain ⟨rfl, rfl⟩ := Prod.mk.inj (Option.some.inj e)
  exact P μ H [] Ext.refl R .nil
theorem a_cons {es : List Expr} {mr : AM} (ha : PE X a (lE X.w X.K ma)) (hr : PA X es (lA X.w X.K mr)) (hs : starEach (a :: es) X.env = (false, eval a X.env) :: starEach es X.env := by rfl) : PA X (a :: es) (lA X.w X.K (aCons ma mr)) :=
  pa_imp (pa_cons ha hr hs) fun σ H Q h => lA_cons h
theorem e_tup {es : List Expr} {x1 : Nat} {mr : AM} (h : PA X es (lA X.w X.K mr)) : PE X (.Tuple es x1 pos) (lE X.w X.K (mFn mkT mr)) := pe_imp (pe_tupN h) fun σ H Q h => by
  obtain ⟨μ, S, ρ, ds, S1, R, E, e, P⟩ := lE_fn h
  refine ⟨μ, S, ρ, ds, S1, R, E, e, fun μ1 H1 vs x1 R1 r1 => ?_⟩
  obtain ⟨μ2, S2, ds2, d, S3, R2, r2, e2, P2⟩ := P μ1 H1 vs x1 R1 r1
  unfold mkT at e2
  split at e2
  · rename_i hl
    obtain ⟨rfl, rfl⟩ := Prod.mk.inj (Option.some.inj e2)
    refine ⟨by rw [r2.length]; exact Nat.le_trans hl lim_le, fun p o ho hn => ?_⟩
    exact post_new R2 hn (.tup (.new ho) (r2.mono (ext_upd hn))) P2
  · cases e2
theorem e_lst {es : List Expr} {mr : AM} (h : PA X es (lA X.w X.K mr)) : PE X (.List es pos) (lE X.w X.K (mFn mkL mr)) := pe_imp (pe_lst h) fun σ H Q h => by
  obtain ⟨μ, S, ρ, ds, S1, R, E, e, P⟩ := lE_fn h
  refine ⟨μ, S, ρ, ds, S1, R, E, e, fun μ1 H1 vs x1 R1 r1 => ?_⟩
  obtain ⟨μ2, S2, ds2, d, S3, R2, r2, e2, P2⟩ := P μ1 H1 vs x1 R1 r1
  unfold mkL at e2
  split at e2
  · rename_i hl
    obtain ⟨rfl, rfl⟩ := Prod.mk.inj (Option.some.inj e2)
    exact ⟨by rw [r2.length]; exact Nat.le_trans hl lim_le, fun p hn => post_list R2 hn r2 P2⟩
  · cases e2
theorem e_op {op : Operator} {g : D → D → M D} (ho : OpR X (binaryOp op) (lR2 X.w X.K g)) (ha : PE X a (lE X.w X.K ma)) (hb : PE X b (lE X.w X.K mb)) : PE X (.BinOp a op b pos) (lE X.w X.K (m2 g ma mb)) :=
  pe_imp (pe_op ho ha hb) fun _ _ _ h => lE_m2 h
theorem e_un {op : UnaryOp} {g : D → M D} (ho : UnR X (unaryOp op) (lR1 X.w X.K g)) (ha : PE X a (lE X.w X.K ma)) : PE X (.UnaryOp op a pos) (lE X.w X.K (m1 g ma)) :=
  pe_imp (pe_un ho ha) fun _ _ _ h => lE_m1 h
theorem e_if {t : TM} (hc : PT X c (lT X.w X.K t)) (ha : PE X a (lE X.w X.K ma)) (hb : PE X b (lE X.w X.K mb)) : PE X (.IfExp c a b pos) (lE X.w X.K (mIf t ma mb)) :=
  pe_imp (pe_ifExp hc ha hb) fun _ _ _ h => lE_if h
theorem e_cmp {op : CmpOp} {g : D → D → M D} (ho : OpR X (compareOp op) (lR2 X.w X.K g)) (ha : PE X a (lE X.w X.K ma)) (hb : PE X b (lE X.w X.K mb)) (hm : behindInMarks op b = false := by first | exact nomark _ | with_unfolding_all rfl) : PE X (.Compare a [op] [b] pos) (lE X.w X.K (m2 g ma mb)) :=
  pe_imp (pe_cmpR ho ha hb hm) fun _ _ _ h => lE_m2 h
theorem t_cmp {op : CmpOp} {g : D → D → M D} (ho : OpR X (compareOp op) (lR2 X.w X.K g)) (ha : PE X a (lE X.w X.K ma)) (hb : PE X b (lE X.w X.K mb)) (hm : behindInMarks op b = false := by first | exact nomark _ | with_unfolding_all rfl) : PT X (.Compare a [op] [b] pos) (lT X.w X.K (tV (m2 g ma mb))) :=
  pt_imp (pt_cmpR ho ha hb hm) fun _ _ _ h => lE_m2 (lT_v h)
/-- a value that is a bool, as a test -/
theorem t_val (ha : PE X a (lE X.w X.K ma)) (he : ∀ whole, isTrue a X.env whole = (do let v ← whole; standAt a.pos; holding [v] (truthy v)) := by intro _; rfl) : PT X a (lT X.w X.K (tV ma)) :=
  pt_imp (pt_val ha he) fun _ _ _ h => lT_v h
theorem t_not {t : TM} (ha : PT X a (lT X.w X.K t)) : PT X (.UnaryOp .Not a pos) (lT X.w X.K (tNt t)) := pt_imp (pt_not ha) fun σ H Q h => by
  obtain ⟨μ, S, ρ, d, S', R, E, e, P⟩ := h
  obtain ⟨k, S1, e1, e2⟩ := bnd_some e
  obtain ⟨rfl, rfl⟩ := Prod.mk.inj (Option.some.inj e2)
  exact ⟨μ, S, ρ, k, S1, R, E, e1, P⟩
theorem w_and1 {t : TM} (ha : PT X a (lT X.w X.K t)) : PW X (.BoolOp .And [a] pos) (lT X.w X.K t) := pw_and1 ha
theorem w_or1 {t : TM} (ha : PT X a (lT X.w X.K t)) : PW X (.BoolOp .Or [a] pos) (lT X.w X.K t) := pw_or1 ha
theorem w_and {t u : TM} {rest : List Expr} (ha : PT X a (lT X.w X.K t)) (hb : PW X (.BoolOp .And (b :: rest) pos) (lT X.w X.K u)) : PW X (.BoolOp .And (a :: b :: rest) pos) (lT X.w X.K (tAn t u)) := pw_imp (pw_and ha hb) fun σ H Q h => by
  obtain ⟨μ, S, ρ, d, S', R, E, e, P⟩ := h
  obtain ⟨k, S1, e1, e2⟩ := bnd_some e
  refine ⟨μ, S, ρ, k, S1, R, E, e1, fun μ1 H1 x1 R1 => ?_⟩
  cases k with
  | true => exact ⟨μ1, S1, ρ, d, S', R1, E.mono x1, e2, fun μ2 H2 x2 => P μ2 H2 (x1.trans x2)⟩
  | false =>
    obtain ⟨rfl, rfl⟩ := Prod.mk.inj (Option.some.inj e2)
    exact P μ1 H1 x1 R1
theorem w_or {t u : TM} {rest : List Expr} (ha : PT X a (lT X.w X.K t)) (hb : PW X (.BoolOp .Or (b :: rest) pos) (lT X.w X.K u)) : PW X (.BoolOp .Or (a :: b :: rest) pos) (lT X.w X.K (tOrr t u)) := pw_imp (pw_or ha hb) fun σ H Q h => by
  obtain ⟨μ, S, ρ, d, S', R, E, e, P⟩ := h
  obtain ⟨k, S1, e1, e2⟩ := bnd_some e
  refine ⟨μ, S, ρ, k, S1, R, E, e1, fun μ1 H1 x1 R1 => ?_⟩
  cases k with
  | false => exact ⟨μ1, S1, ρ, d, S', R1, E.mono x1, e2, fun μ2 H2 x2 => P μ2 H2 (x1.trans x2)⟩
  | true =>
    obtain ⟨rfl, rfl⟩ := Prod.mk.inj (Option.some.inj e2)
    exact P μ1 H1 x1 R1
end

/-! ### chains of comparisons -/
structure PCh (X : Cx) (ops : List CmpOp) (es : List Expr) (m : D → EM) : Prop where
  ev : ∀ (pos : Pos) (pins : List (Addr × Obj)) (s : Shared) (σ : L2.St) (H : Hp) (x : V) (d0 : D) (u : Value) (Q : VK), Inv X pins σ H s → RelV x u →
    (∃ μ S ρ d S', Rel X.w X.K μ H S ∧ RE X.K μ H σ ρ ∧ RV X.K μ H x d0 ∧ m d0 ρ S = some (d, S') ∧ Post X.w X.K μ H S' d Q) → wpAny (model X.prog X.w) X.A (compareChain pos u ops (es.map fun e => eval e X.env)) (EP X pins σ Q) X.xe s
  ts : ∀ (pos : Pos) (pins : List (Addr × Obj)) (s : Shared) (σ : L2.St) (H : Hp) (x : V) (d0 : D) (u : Value) (Q : Bool → Hp → Prop), Inv X pins σ H s → RelV x u →
    (∃ μ S ρ k S', Rel X.w X.K μ H S ∧ RE X.K μ H σ ρ ∧ RV X.K μ H x d0 ∧ m d0 ρ S = some (.bl k, S') ∧ ∀ μ' H', Ext μ H μ' H' → Rel X.w X.K μ' H' S' → Q k H') → wpAny (model X.prog X.w) X.A (testChain pos u ops (es.map fun e => eval e X.env)) (TP X pins σ Q) X.xe s
def mLast (g : D → D → M D) (mb : EM) : D → EM := fun d ρ => bnd (mb ρ) (g d)
def mLink (g : D → D → M D) (mb : EM) (mr : D → EM) : D → EM := fun d ρ => bnd (mb ρ) fun b => bnd (g d b) fun k => match k with
  | .bl true => mr b ρ
  | .bl false => ret (.bl false)
  | _ => fail
def mChain (ma : EM) (mr : D → EM) : EM := fun ρ => bnd (ma ρ) fun d => mr d ρ
section
variable {X : Cx} {pos : Pos} {a b c : Expr} {ma mb mc : EM}
theorem ch_last {op : CmpOp} {g : D → D → M D} (ho : OpR X (compareOp op) (lR2 X.w X.K g)) (hb : PE X b (lE X.w X.K mb)) : PCh X [op] [b] (mLast g mb) := by
  refine ⟨fun pos pins s σ H x d0 u Q I rx h => ?_, fun pos pins s σ H x d0 u Q I rx h => ?_⟩
  · obtain ⟨μ, S, ρ, d, S', R, E, r0, e, P⟩ := h
    obtain ⟨y, S1, e1, e2⟩ := bnd_some e
    refine chain_last (thn (hb.run pins s σ H (fun v H1 => ∃ μ1, Ext μ H μ1 H1 ∧ Rel X.w X.K μ1 H1 S1 ∧ RV X.K μ1 H1 v y) I ⟨μ, S, ρ, y, S1, R, E, e1, fun μ1 H1 v x1 R1 r1 => ⟨μ1, x1, R1, r1⟩⟩) fun bv s1 ⟨v, H1, I1, rv, μ1, x1, R1, r1⟩ => ?_)
    exact ho pins s1 σ H1 x v u bv Q I1 rx rv ⟨μ1, S1, d0, y, d, S', R1, r0.mono x1, r1, e2, P.step x1⟩
  · obtain ⟨μ, S, ρ, k, S', R, E, r0, e, P⟩ := h
    obtain ⟨y, S1, e1, e2⟩ := bnd_some e
    refine test_last (thn (hb.run pins s σ H (fun v H1 => ∃ μ1, Ext μ H μ1 H1 ∧ Rel X.w X.K μ1 H1 S1 ∧ RV X.K μ1 H1 v y) I ⟨μ, S, ρ, y, S1, R, E, e1, fun μ1 H1 v x1 R1 r1 => ⟨μ1, x1, R1, r1⟩⟩) fun bv s1 ⟨v, H1, I1, rv, μ1, x1, R1, r1⟩ => ?_)
    refine thn (ho pins s1 σ H1 x v u bv (fun v H2 => ∃ μ2, v = .bl k ∧ Ext μ1 H1 μ2 H2 ∧ Rel X.w X.K μ2 H2 S') I1 rx rv ⟨μ1, S1, d0, y, .bl k, S', R1, r0.mono x1, r1, e2, fun μ2 H2 v2 x2 R2 r2 => ⟨μ2, by cases r2; rfl, x2, R2⟩⟩) fun c s2 ⟨v2, H2, I2, rv2, μ2, q1, q2, q3⟩ => ?_
    subst q1
    cases rv2
    exact wpAny_truthy_bool ⟨H2, I2, P μ2 H2 (x1.trans q2) q3⟩
theorem ch_link {op op' : CmpOp} {ops : List CmpOp} {es : List Expr} {g : D → D → M D} {mr : D → EM} (ho : OpR X (compareOp op) (lR2 X.w X.K g)) (hb : PE X b (lE X.w X.K mb)) (hr : PCh X (op' :: ops) (c :: es) mr) : PCh X (op :: op' :: ops) (b :: c :: es) (mLink g mb mr) := by
  have two : ∀ {pins : List (Addr × Obj)} {s : Shared} {σ : L2.St} {H : Hp} {x : V} {d0 y dk : D} {u : Value} {μ : List Addr} {S S1 S2 : Store} {ρ : Env} {R' : Bool → Shared → Prop}, Inv X pins σ H s → RelV x u → Rel X.w X.K μ H S → RE X.K μ H σ ρ → RV X.K μ H x d0 → mb ρ S = some (y, S1) → g d0 y S1 = some (dk, S2) → (∃ k, dk = .bl k) →
      ∀ {F : Value → Value → Shared → Prop}, (∀ bv c s2, (∃ v H2 μ2 k, dk = .bl k ∧ c = Value.bool k ∧ Inv X pins σ H2 s2 ∧ RelV v bv ∧ RV X.K μ2 H2 v y ∧ Ext μ H μ2 H2 ∧ Rel X.w X.K μ2 H2 S2) → F bv c s2) →
      wpAny (model X.prog X.w) X.A (eval b X.env) (fun bv s1 => wpAny (model X.prog X.w) X.A (compareOp op u bv) (fun c s2 => F bv c s2) X.xe s1) X.xe s := by
    intro pins s σ H x d0 y dk u μ S S1 S2 ρ R' I rx R E r0 e1 e2 hk F hF
    refine thn (hb.run pins s σ H (fun v H1 => ∃ μ1, Ext μ H μ1 H1 ∧ Rel X.w X.K μ1 H1 S1 ∧ RV X.K μ1 H1 v y) I ⟨μ, S, ρ, y, S1, R, E, e1, fun μ1 H1 v x1 R1 r1 => ⟨μ1, x1, R1, r1⟩⟩) fun bv s1 ⟨v, H1, I1, rv, μ1, x1, R1, r1⟩ => ?_
    obtain ⟨k, rfl⟩ := hk
    refine thn (ho pins s1 σ H1 x v u bv (fun v2 H2 => ∃ μ2, v2 = .bl k ∧ Ext μ1 H1 μ2 H2 ∧ Rel X.w X.K μ2 H2 S2) I1 rx rv ⟨μ1, S1, d0, y, .bl k, S2, R1, r0.mono x1, r1, e2, fun μ2 H2 v2 x2 R2 r2 => ⟨μ2, by cases r2; rfl, x2, R2⟩⟩) fun c s2 ⟨v2, H2, I2, rv2, μ2, q1, q2, q3⟩ => ?_
    subst q1
    cases rv2
    exact hF bv _ s2 ⟨v, H2, μ2, k, rfl, rfl, I2, rv, r1.mono q2, x1.trans q2, q3⟩
  refine ⟨fun pos pins s σ H x d0 u Q I rx h => ?_, fun pos pins s σ H x d0 u Q I rx h => ?_⟩
  · obtain ⟨μ, S, ρ, d, S', R, E, r0, e, P⟩ := h
    obtain ⟨y, S1, e1, e2⟩ := bnd_some e
    obtain ⟨dk, S2, e3, e4⟩ := bnd_some e2
    have hk : ∃ k, dk = .bl k := by
      cases dk with
      | bl k => exact ⟨k, rfl⟩
      | _ => cases e4
    refine chain_link (two (R' := fun _ _ => True) I rx R E r0 e1 e3 hk fun bv c s2 hh => ?_)
    obtain ⟨v, H2, μ2, k, rfl, rfl, I2, rv, r1, x2, R2⟩ := hh
    refine wpAny_truthy_bool ?_
    cases k with
    | false =>
      obtain ⟨rfl, rfl⟩ := Prod.mk.inj (Option.some.inj e4)
      exact ite_ff ⟨.bl false, H2, I2, rfl, P μ2 H2 _ x2 R2 (.bl false)⟩
    | true => exact ite_tt (hr.ev pos pins s2 σ H2 v y bv Q I2 rv ⟨μ2, S2, ρ, d, S', R2, E.mono x2, r1, e4, P.step x2⟩)
  · obtain ⟨μ, S, ρ, kk, S', R, E, r0, e, P⟩ := h
    obtain ⟨y, S1, e1, e2⟩ := bnd_some e
    obtain ⟨dk, S2, e3, e4⟩ := bnd_some e2
    have hk : ∃ k, dk = .bl k := by
      cases dk with
      | bl k => exact ⟨k, rfl⟩
      | _ => cases e4
    refine test_link (two (R' := fun _ _ => True) I rx R E r0 e1 e3 hk fun bv c s2 hh => ?_)
    obtain ⟨v, H2, μ2, k, rfl, rfl, I2, rv, r1, x2, R2⟩ := hh
    refine wpAny_truthy_bool ?_
    cases k with
    | false =>
      obtain ⟨q, rfl⟩ := Prod.mk.inj (Option.some.inj e4)
      cases q
      exact ite_ff ⟨H2, I2, P μ2 H2 x2 R2⟩
    | true => exact ite_tt (hr.ts pos pins s2 σ H2 v y bv Q I2 rv ⟨μ2, S2, ρ, kk, S', R2, E.mono x2, r1, e4, fun μ3 H3 x3 => P μ3 H3 (x2.trans x3)⟩)
theorem e_chain {o1 o2 : CmpOp} {ops : List CmpOp} {es : List Expr} {mr : D → EM} (ha : PE X a (lE X.w X.K ma)) (hr : PCh X (o1 :: o2 :: ops) (b :: c :: es) mr)
    (hm : lastMarks (o1 :: o2 :: ops) (b :: c :: es) = false := by with_unfolding_all rfl) (hes : evalEach es X.env = es.map fun e => eval e X.env := by rfl) : PE X (.Compare a (o1 :: o2 :: ops) (b :: c :: es) pos) (lE X.w X.K (mChain ma mr)) := by
  refine ⟨fun pins s σ H Q I h => ?_⟩
  obtain ⟨μ, S, ρ, d, S', R, E, e, P⟩ := h
  obtain ⟨y, S1, e1, e2⟩ := bnd_some e
  refine Compare_chain (thn (ha.run pins s σ H (fun v H1 => ∃ μ1, Ext μ H μ1 H1 ∧ Rel X.w X.K μ1 H1 S1 ∧ RV X.K μ1 H1 v y) I ⟨μ, S, ρ, y, S1, R, E, e1, fun μ1 H1 v x1 R1 r1 => ⟨μ1, x1, R1, r1⟩⟩) fun av s1 ⟨v, H1, I1, rv, μ1, x1, R1, r1⟩ => ?_) hm
  rw [hes]
  exact hr.ev pos pins s1 σ H1 v y av Q I1 rv ⟨μ1, S1, ρ, d, S', R1, E.mono x1, r1, e2, P.step x1⟩
theorem t_chain {o1 o2 : CmpOp} {ops : List CmpOp} {es : List Expr} {mr : D → EM} (ha : PE X a (lE X.w X.K ma)) (hr : PCh X (o1 :: o2 :: ops) (b :: c :: es) mr)
    (hm : lastMarks (o1 :: o2 :: ops) (b :: c :: es) = false := by with_unfolding_all rfl) (hes : evalEach es X.env = es.map fun e => eval e X.env := by rfl) : PT X (.Compare a (o1 :: o2 :: ops) (b :: c :: es) pos) (lT X.w X.K (tV (mChain ma mr))) := by
  refine ⟨fun pins s σ H Q I h => ?_⟩
  obtain ⟨μ, S, ρ, k, S', R, E, e, P⟩ := h
  obtain ⟨d, S3, e0, e9⟩ := bnd_some e
  obtain ⟨y, S1, e1, e2⟩ := bnd_some e0
  have hk : d = .bl k ∧ S3 = S' := by
    cases d with
    | bl k' =>
      obtain ⟨rfl, rfl⟩ := Prod.mk.inj (Option.some.inj e9)
      exact ⟨rfl, rfl⟩
    | _ => cases e9
  obtain ⟨rfl, rfl⟩ := hk
  refine isTrue_chain (thn (ha.run pins s σ H (fun v H1 => ∃ μ1, Ext μ H μ1 H1 ∧ Rel X.w X.K μ1 H1 S1 ∧ RV X.K μ1 H1 v y) I ⟨μ, S, ρ, y, S1, R, E, e1, fun μ1 H1 v x1 R1 r1 => ⟨μ1, x1, R1, r1⟩⟩) fun av s1 ⟨v, H1, I1, rv, μ1, x1, R1, r1⟩ => ?_) hm
  rw [hes]
  exact hr.ts pos pins s1 σ H1 v y av Q I1 rv ⟨μ1, S1, ρ, k, _, R1, E.mono x1, r1, e2, fun μ2 H2 x2 => P μ2 H2 (x1.trans x2)⟩
end
end VM

/-! VM3: targets, statements, loops, comprehensions -/
namespace VM
open PySem PySem.Spec PyProof.Rows L2

/-! ### targets -/
def gNm (i : Nat) : GM := fun d ρ => ret (ρ.set i (some d))
def gsNil : GMs := fun ds ρ => match ds with
  | [] => ret ρ
  | _ => fail
def gsCons (g : GM) (gs : GMs) : GMs := fun ds ρ => match ds with
  | d :: r => bnd (g d ρ) fun ρ1 => gs r ρ1
  | [] => fail
def gTp (gs : GMs) : GM := fun d ρ => match d with
  | .tup ds => gs ds ρ
  | .pr ds => gs ds ρ
  | _ => fail
def gSb (set : D → D → D → M Unit) (mo mi : EM) : GM := fun d ρ => bnd (mo ρ) fun o => bnd (mi ρ) fun i => bnd (set o i d) fun _ => ret ρ
def lSet (w : World) (K : PySem.W.Frag) (f : D → D → D → M Unit) : TSet := fun o i v H Q => ∃ μ S d1 d2 d3 S', Rel w K μ H S ∧ RV K μ H o d1 ∧ RV K μ H i d2 ∧ RV K μ H v d3 ∧ f d1 d2 d3 S = some ((), S') ∧ ∀ μ' H', Ext μ H μ' H' → Rel w K μ' H' S' → Q H'
section
variable {X : Cx} {pos : Pos}
theorem g_name (i : Nat) {x : Str} (hN : X.N.Nodup) (hi : X.N[i]? = some x := by rfl) (hx : Loc X.env.scope x := by first | exact Or.inl rfl | exact Or.inr rfl)
    (hf : X.fn x = true ∨ X.env.scope.names.lookup x = some .local := by first | exact .inl rfl | exact .inr rfl) : PG X (.Name x pos) (lG X.w X.K [i] (gNm i)) := pg_imp (pg_name hN hi hx hf) fun v σ H Q h => by
  obtain ⟨μ, S, ρ, d, ρ', S', R, E, r, e, P⟩ := h
  obtain ⟨rfl, rfl⟩ := Prod.mk.inj (Option.some.inj e)
  exact P μ H _ Ext.refl R (E.set r) Off.set
theorem gs_nil : PGs X [] (lGs X.w X.K [] gsNil) := pgs_imp pgs_nil fun vs σ H Q h => by
  obtain ⟨μ, S, ρ, ds, ρ', S', R, E, r, e, P⟩ := h
  cases r with
  | nil =>
    obtain ⟨rfl, rfl⟩ := Prod.mk.inj (Option.some.inj e)
    exact ⟨rfl, P μ H _ Ext.refl R E Off.refl⟩
  | cons _ _ => cases e
theorem gs_cons {e : Expr} {es : List Expr} {g : GM} {gs : GMs} {vs ws : List Nat} (h1 : PG X e (lG X.w X.K vs g)) (h2 : PGs X es (lGs X.w X.K ws gs)) (hs : (assignEach (e :: es) X.env).map (·.2) = assign e X.env :: (assignEach es X.env).map (·.2) := by rfl) :
    PGs X (e :: es) (lGs X.w X.K (vs ++ ws) (gsCons g gs)) := pgs_imp (pgs_cons h1 h2 hs) fun vs σ H Q h => by
  obtain ⟨μ, S, ρ, ds, ρ', S', R, E, r, e, P⟩ := h
  cases r with
  | nil => cases e
  | @cons v d vr dr r0 rr =>
    obtain ⟨ρ1, S1, e1, e2⟩ := bnd_some e
    exact ⟨v, vr, rfl, μ, S, ρ, d, ρ1, S1, R, E, r0, e1, fun μ1 H1 σ1 x1 R1 E1 f1 => ⟨μ1, S1, ρ1, dr, ρ', S', R1, E1, rr.mono x1, e2, fun μ2 H2 σ2 x2 R2 E2 f2 => P μ2 H2 σ2 (x1.trans x2) R2 E2 (f1.trans f2)⟩⟩
theorem gsLen {gs : GMs} {n : Nat} (h : ∀ ds ρ S x, gs ds ρ S = some x → ds.length = n) : ∀ ds ρ S x, gs ds ρ S = some x → ds.length = n := h
theorem g_tup {es : List Expr} {k n : Nat} {gs : GMs} {vs : List Nat} (hc : X.calm = true) (h : PGs X es (lGs X.w X.K vs gs)) (hl : ∀ ds ρ S x, gs ds ρ S = some x → ds.length = n)
    (hn : (assignEach es X.env).length = n := by rfl) (hst : (assignEach es X.env).findIdx? (·.1) = none := by rfl) : PG X (.Tuple es k pos) (lG X.w X.K vs (gTp gs)) := pg_imp (pg_tup hc h hn hst) fun v σ H Q h => by
  obtain ⟨μ, S, ρ, d, ρ', S', R, E, r, e, P⟩ := h
  cases r with
  | tup hq rs =>
    have e' : gs _ ρ S = some (ρ', S') := e
    exact ⟨_, _, rfl, hq.sq, by rw [rs.length]; exact hl _ _ _ _ e', μ, S, ρ, _, ρ', S', R, E, rs, e', P⟩
  | pr hq rs =>
    have e' : gs _ ρ S = some (ρ', S') := e
    exact ⟨_, _, rfl, hq, by rw [rs.length]; exact hl _ _ _ _ e', μ, S, ρ, _, ρ', S', R, E, rs, e', P⟩
  | _ => cases e
theorem gl_nil : ∀ ds ρ S x, gsNil ds ρ S = some x → ds.length = 0 := fun ds ρ S x h => by
  cases ds with
  | nil => rfl
  | cons _ _ => cases h
theorem gl_cons {g : GM} {gs : GMs} {n : Nat} (h : ∀ ds ρ S x, gs ds ρ S = some x → ds.length = n) : ∀ ds ρ S x, gsCons g gs ds ρ S = some x → ds.length = n + 1 := fun ds ρ S x q => by
  cases ds with
  | nil => cases q
  | cons d r =>
    obtain ⟨x1, x2⟩ := x
    obtain ⟨ρ1, S1, e1, e2⟩ := bnd_some (show bnd (g d ρ) (fun ρ1 => gs r ρ1) S = some (x1, x2) from q)
    rw [List.length_cons, h r ρ1 S1 _ e2]
theorem g_sub {o i : Expr} {mo mi : EM} {f : D → D → D → M Unit} (ho : PE X o (lE X.w X.K mo)) (hi : PE X i (lE X.w X.K mi)) (hs : PSet X (lSet X.w X.K f))
    (ha : ∀ v, assign (.Subscript o i pos) X.env v = (do
      let ov ← eval o X.env |> holding [v]
      let iv ← eval i X.env |> holding [v, ov]
      standAt pos
      setItem ov iv v |> holding [v, ov, iv]
      release [v, ov, iv] []) := by intro _; rfl) : PG X (.Subscript o i pos) (lG X.w X.K [] (gSb f mo mi)) := pg_imp (pg_sub ho hi hs ha) fun v σ H Q h => by
  obtain ⟨μ, S, ρ, d, ρ', S', R, E, r, e, P⟩ := h
  obtain ⟨o1, S1, e1, e2⟩ := bnd_some e
  obtain ⟨i1, S2, e3, e4⟩ := bnd_some e2
  obtain ⟨u1, S3, e5, e6⟩ := bnd_some e4
  obtain ⟨rfl, rfl⟩ := Prod.mk.inj (Option.some.inj e6)
  exact ⟨μ, S, ρ, o1, S1, R, E, e1, fun μ1 H1 v1 x1 R1 r1 => ⟨μ1, S1, ρ, i1, S2, R1, E.mono x1, e3, fun μ2 H2 v2 x2 R2 r2 => ⟨μ2, S2, o1, i1, d, S3, R2, r1.mono x2, r2, r.mono (x1.trans x2), e5, fun μ3 H3 x3 R3 =>
    P μ3 H3 σ (x1.trans (x2.trans x3)) R3 (E.mono (x1.trans (x2.trans x3))) Off.refl⟩⟩⟩
end

/-! ### statements -/
def sNil : SM := fun ρ => ret (.nx ρ)
def sSeq (m r : SM) : SM := fun ρ => bnd (m ρ) fun o => match o with
  | .nx ρ' => r ρ'
  | .bk ρ' => ret (.bk ρ')
  | .ct ρ' => ret (.ct ρ')
  | .rt d => ret (.rt d)
def sSet (i : Nat) (m : EM) : SM := fun ρ => bnd (m ρ) fun d => ret (.nx (ρ.set i (some d)))
def sAsg (g : GM) (m : EM) : SM := fun ρ => bnd (m ρ) fun d => bnd (g d ρ) fun ρ' => ret (.nx ρ')
def sPar (i j : Nat) (ma mb : EM) : SM := fun ρ => bnd (ma ρ) fun a => bnd (mb ρ) fun b => ret (.nx ((ρ.set i (some a)).set j (some b)))
def sPar3 (i j k : Nat) (ma mb mc : EM) : SM := fun ρ => bnd (ma ρ) fun a => bnd (mb ρ) fun b => bnd (mc ρ) fun c => ret (.nx (((ρ.set i (some a)).set j (some b)).set k (some c)))
def sExpr (m : EM) : SM := fun ρ => bnd (m ρ) fun _ => ret (.nx ρ)
def sRet (m : EM) : SM := fun ρ => bnd (m ρ) fun d => ret (.rt d)
def sRetN : SM := fun _ => ret (.rt .non)
def sIf (t : TM) (a b : SM) : SM := fun ρ => bnd (t ρ) fun k => if k = true then a ρ else b ρ
def sBrk : SM := fun ρ => ret (.bk ρ)
def sCnt : SM := fun ρ => ret (.ct ρ)
def sNever : SM := fun _ => fail
section
variable {X : Cx} {st : Stmt} {rest : List Stmt} {pos : Pos}
theorem ss_nil : PSs X [] (lS X.w X.K sNil) := pss_imp pss_nil fun D σ H h => by
  obtain ⟨μ, S, ρ, o, S', R, E, e, P⟩ := h
  obtain ⟨rfl, rfl⟩ := Prod.mk.inj (Option.some.inj e)
  exact P μ H σ Ext.refl R E
theorem ss_cons {m r : SM} (h1 : PS X st (lS X.w X.K m)) (h2 : PSs X rest (lS X.w X.K r)) : PSs X (st :: rest) (lS X.w X.K (sSeq m r)) := pss_imp (pss_cons h1 h2) fun D σ H h => by
  obtain ⟨μ, S, ρ, o, S', R, E, e, P⟩ := h
  obtain ⟨o1, S1, e1, e2⟩ := bnd_some e
  refine ⟨μ, S, ρ, o1, S1, R, E, e1, ?_⟩
  cases o1 with
  | nx ρ1 => exact fun μ1 H1 σ1 x1 R1 E1 => ⟨μ1, S1, ρ1, o, S', R1, E1, e2, P.step x1⟩
  | bk ρ1 =>
    obtain ⟨rfl, rfl⟩ := Prod.mk.inj (Option.some.inj e2)
    exact P
  | ct ρ1 =>
    obtain ⟨rfl, rfl⟩ := Prod.mk.inj (Option.some.inj e2)
    exact P
  | rt d =>
    obtain ⟨rfl, rfl⟩ := Prod.mk.inj (Option.some.inj e2)
    exact P
theorem ss_one {m : SM} (h1 : PS X st (lS X.w X.K m)) : PSs X [st] (lS X.w X.K m) := pss_one h1
theorem s_set (i : Nat) {x : Str} {e : Expr} {m : EM} {pos' : Pos} (hN : X.N.Nodup) (he : PE X e (lE X.w X.K m)) (hi : X.N[i]? = some x := by rfl) (hx : Loc X.env.scope x := by first | exact Or.inl rfl | exact Or.inr rfl)
    (hs : swapsWith e (some (.Name x pos')) pos.line X.env = pure false := by rfl) (hf : X.fn x = true ∨ X.env.scope.names.lookup x = some .local := by first | exact .inl rfl | exact .inr rfl) :
    PS X (.Assign [.Name x pos'] e pos) (lS X.w X.K (sSet i m)) := ps_imp (ps_set hN hi hx he hs hf) fun D σ H h => by
  obtain ⟨μ, S, ρ, o, S', R, E, e, P⟩ := h
  obtain ⟨d, S1, e1, e2⟩ := bnd_some e
  obtain ⟨rfl, rfl⟩ := Prod.mk.inj (Option.some.inj e2)
  exact ⟨μ, S, ρ, d, S1, R, E, e1, fun μ1 H1 v x1 R1 r1 => P μ1 H1 _ x1 R1 ((E.mono x1).set r1)⟩
theorem s_asg {tg e : Expr} {m : EM} {g : GM} {vs : List Nat} (hg : PG X tg (lG X.w X.K vs g)) (he : PE X e (lE X.w X.K m)) (hs : swapsWithSole [tg] e pos.line X.env = pure false := by rfl) (hw : swappedStores [tg] e X.env = pure none := by rfl)
    (h1 : (assignEach [tg] X.env).map (·.2) = [assign tg X.env] := by rfl) : PS X (.Assign [tg] e pos) (lS X.w X.K (sAsg g m)) := ps_imp (ps_asg he hg hs hw h1) fun D σ H h => by
  obtain ⟨μ, S, ρ, o, S', R, E, e, P⟩ := h
  obtain ⟨d, S1, e1, e2⟩ := bnd_some e
  obtain ⟨ρ1, S2, e3, e4⟩ := bnd_some e2
  obtain ⟨rfl, rfl⟩ := Prod.mk.inj (Option.some.inj e4)
  exact ⟨μ, S, ρ, d, S1, R, E, e1, fun μ1 H1 v x1 R1 r1 => ⟨μ1, S1, ρ, d, ρ1, S2, R1, E.mono x1, r1, e3, fun μ2 H2 σ2 x2 R2 E2 _ => P μ2 H2 σ2 (x1.trans x2) R2 E2⟩⟩
theorem s_par (i j : Nat) {x y : Str} {a b : Expr} {ma mb : EM} {px py pt : Pos} {kt k2 : Nat} {pt2 : Pos} (hc : X.calm = true) (hN : X.N.Nodup) (ha : PE X a (lE X.w X.K ma)) (hb : PE X b (lE X.w X.K mb)) (hi : X.N[i]? = some x := by rfl) (hj : X.N[j]? = some y := by rfl) (hij : i ≠ j := by decide)
    (hx : X.env.scope.names.lookup x = some .local := by rfl) (hy : X.env.scope.names.lookup y = some .local := by rfl)
    (hw : swappedStores [.Tuple [.Name x px, .Name y py] kt pt] (.Tuple [a, b] k2 pt2) X.env = pure (some [x, y]) := by rfl)
    (hs : swapsWithSole [.Tuple [.Name x px, .Name y py] kt pt] (.Tuple [a, b] k2 pt2) pos.line X.env = pure false := by rfl) (hs1 : starEach [a, b] X.env = (false, eval a X.env) :: starEach [b] X.env := by rfl) (hs2 : starEach [b] X.env = (false, eval b X.env) :: starEach [] X.env := by rfl) :
    PS X (.Assign [.Tuple [.Name x px, .Name y py] kt pt] (.Tuple [a, b] k2 pt2) pos) (lS X.w X.K (sPar i j ma mb)) :=
  ps_imp (ps_par hc hN hi hj hij hx hy (pa_cons ha (pa_cons hb pa_nil hs2) hs1) hw hs) fun D σ H h => by
    obtain ⟨μ, S, ρ, o, S', R, E, e, P⟩ := h
    obtain ⟨d1, S1, e1, e2⟩ := bnd_some e
    obtain ⟨d2, S2, e3, e4⟩ := bnd_some e2
    obtain ⟨rfl, rfl⟩ := Prod.mk.inj (Option.some.inj e4)
    exact ⟨μ, S, ρ, d1, S1, R, E, e1, fun μ1 H1 v x1 R1 r1 => ⟨μ1, S1, ρ, d2, S2, R1, E.mono x1, e3, fun μ2 H2 u x2 R2 r2 => ⟨v, u, rfl, P μ2 H2 _ (x1.trans x2) R2 (((E.mono (x1.trans x2)).set (r1.mono x2)).set r2)⟩⟩⟩
theorem s_par3 (i j l : Nat) {x y z : Str} {a b c : Expr} {ma mb mc : EM} {px py pz pt : Pos} {kt k2 : Nat} {pt2 : Pos} (hc : X.calm = true) (hN : X.N.Nodup) (ha : PE X a (lE X.w X.K ma)) (hb : PE X b (lE X.w X.K mb)) (hcc : PE X c (lE X.w X.K mc))
    (hi : X.N[i]? = some x := by rfl) (hj : X.N[j]? = some y := by rfl) (hl : X.N[l]? = some z := by rfl) (hij : i ≠ j := by decide) (hil : i ≠ l := by decide) (hjl : j ≠ l := by decide)
    (hx : X.env.scope.names.lookup x = some .local := by rfl) (hy : X.env.scope.names.lookup y = some .local := by rfl) (hz : X.env.scope.names.lookup z = some .local := by rfl)
    (hw : swappedStores [.Tuple [.Name x px, .Name y py, .Name z pz] kt pt] (.Tuple [a, b, c] k2 pt2) X.env = pure (some [x, y, z]) := by rfl)
    (hs : swapsWithSole [.Tuple [.Name x px, .Name y py, .Name z pz] kt pt] (.Tuple [a, b, c] k2 pt2) pos.line X.env = pure false := by rfl)
    (hs1 : starEach [a, b, c] X.env = (false, eval a X.env) :: starEach [b, c] X.env := by rfl) (hs2 : starEach [b, c] X.env = (false, eval b X.env) :: starEach [c] X.env := by rfl) (hs3 : starEach [c] X.env = (false, eval c X.env) :: starEach [] X.env := by rfl) :
    PS X (.Assign [.Tuple [.Name x px, .Name y py, .Name z pz] kt pt] (.Tuple [a, b, c] k2 pt2) pos) (lS X.w X.K (sPar3 i j l ma mb mc)) :=
  ps_imp (ps_par3 hc hN hi hj hl hij hil hjl hx hy hz (pa_cons ha (pa_cons hb (pa_cons hcc pa_nil hs3) hs2) hs1) hw hs) fun D σ H h => by
    obtain ⟨μ, S, ρ, o, S', R, E, e, P⟩ := h
    obtain ⟨d1, S1, e1, e2⟩ := bnd_some e
    obtain ⟨d2, S2, e3, e4⟩ := bnd_some e2
    obtain ⟨d3, S3, e5, e6⟩ := bnd_some e4
    obtain ⟨rfl, rfl⟩ := Prod.mk.inj (Option.some.inj e6)
    exact ⟨μ, S, ρ, d1, S1, R, E, e1, fun μ1 H1 v x1 R1 r1 => ⟨μ1, S1, ρ, d2, S2, R1, E.mono x1, e3, fun μ2 H2 u x2 R2 r2 => ⟨μ2, S2, ρ, d3, S3, R2, E.mono (x1.trans x2), e5, fun μ3 H3 t x3 R3 r3 =>
      ⟨v, u, t, rfl, P μ3 H3 _ (x1.trans (x2.trans x3)) R3 ((((E.mono (x1.trans (x2.trans x3))).set (r1.mono (x2.trans x3))).set (r2.mono x3)).set r3)⟩⟩⟩⟩
theorem s_expr {e : Expr} {m : EM} (he : PE X e (lE X.w X.K m)) (hs : swapsWith e none pos.line X.env = pure false := by rfl) : PS X (.Expr e pos) (lS X.w X.K (sExpr m)) := ps_imp (ps_expr he hs) fun D σ H h => by
  obtain ⟨μ, S, ρ, o, S', R, E, e, P⟩ := h
  obtain ⟨d, S1, e1, e2⟩ := bnd_some e
  obtain ⟨rfl, rfl⟩ := Prod.mk.inj (Option.some.inj e2)
  exact ⟨μ, S, ρ, d, S1, R, E, e1, fun μ1 H1 v x1 R1 r1 => P μ1 H1 _ x1 R1 (E.mono x1)⟩
theorem s_ret {e : Expr} {m : EM} (he : PE X e (lE X.w X.K m)) : PS X (.Return (some e) pos) (lS X.w X.K (sRet m)) := ps_imp (ps_ret he) fun D σ H h => by
  obtain ⟨μ, S, ρ, o, S', R, E, e, P⟩ := h
  obtain ⟨d, S1, e1, e2⟩ := bnd_some e
  obtain ⟨rfl, rfl⟩ := Prod.mk.inj (Option.some.inj e2)
  exact ⟨μ, S, ρ, d, S1, R, E, e1, P⟩
theorem s_retN : PS X (.Return none pos) (lS X.w X.K sRetN) := ps_imp ps_retN fun D σ H h => by
  obtain ⟨μ, S, ρ, o, S', R, E, e, P⟩ := h
  obtain ⟨rfl, rfl⟩ := Prod.mk.inj (Option.some.inj e)
  exact post_val R .non P
theorem s_if {c : Expr} {a b : List Stmt} {t : TM} {ma mb : SM} (hc : PT X c (lT X.w X.K t)) (ha : PSs X a (lS X.w X.K ma)) (hb : PSs X b (lS X.w X.K mb)) : PS X (.If c a b pos) (lS X.w X.K (sIf t ma mb)) := ps_imp (ps_if hc ha hb) fun D σ H h => by
  obtain ⟨μ, S, ρ, o, S', R, E, e, P⟩ := h
  obtain ⟨k, S1, e1, e2⟩ := bnd_some e
  refine ⟨μ, S, ρ, k, S1, R, E, e1, fun μ1 H1 x1 R1 => ?_⟩
  cases k with
  | true => exact ⟨μ1, S1, ρ, o, S', R1, E.mono x1, e2, P.step x1⟩
  | false => exact ⟨μ1, S1, ρ, o, S', R1, E.mono x1, e2, P.step x1⟩
theorem s_break : PS X (.Break pos) (lS X.w X.K sBrk) := ps_imp ps_break fun D σ H h => by
  obtain ⟨μ, S, ρ, o, S', R, E, e, P⟩ := h
  obtain ⟨rfl, rfl⟩ := Prod.mk.inj (Option.some.inj e)
  exact P μ H σ Ext.refl R E
theorem s_cont : PS X (.Continue pos) (lS X.w X.K sCnt) := ps_imp ps_continue fun D σ H h => by
  obtain ⟨μ, S, ρ, o, S', R, E, e, P⟩ := h
  obtain ⟨rfl, rfl⟩ := Prod.mk.inj (Option.some.inj e)
  exact P μ H σ Ext.refl R E
theorem s_pass : PS X (.Pass pos) (lS X.w X.K sNil) := ps_imp ps_pass fun D σ H h => by
  obtain ⟨μ, S, ρ, o, S', R, E, e, P⟩ := h
  obtain ⟨rfl, rfl⟩ := Prod.mk.inj (Option.some.inj e)
  exact P μ H σ Ext.refl R E
theorem s_never : PS X st (lS X.w X.K sNever) := ps_imp ps_never fun D σ H h => by
  obtain ⟨μ, S, ρ, o, S', R, E, e, P⟩ := h
  cases e
end

/-! ### what is walked -/
abbrev Lv := List (Nat × Ob)
def Live (lv : Lv) (S : Store) : Prop := ∀ p ∈ lv, S[p.1]? = some p.2
abbrev IM := Env → M (List D × Lv)
/-- the iterator J gives these items, as long as what it walks stands -/
def Walk (w : World) (K : PySem.W.Frag) (μ0 : List Addr) (H0 : Hp) (J : It) (items : List D) (lv : Lv) : Prop := ∀ μ H S, Ext0 μ0 H0 μ H → Rel w K μ H S → Live lv S →
  (∀ i, items.length ≤ i → J.stop i H) ∧ ∀ i d, items[i]? = some d → J.go i H ∧ ∀ x H', J.yld i H x H' → Ext μ H μ H' ∧ (∀ a ∈ μ, H' a = H a) ∧ RV K μ H' x d
def lI (w : World) (K : PySem.W.Frag) (m : IM) : TI := fun σ H R => ∃ μ S ρ items lv S', Rel w K μ H S ∧ RE K μ H σ ρ ∧ m ρ S = some ((items, lv), S') ∧ ∀ μ' H' J, Ext μ H μ' H' → Rel w K μ' H' S' → Walk w K μ' H' J items lv → R J H'
theorem pi_imp {X : Cx} {tg iter : Expr} {t t' : TI} (h : PI X tg iter t) (hi : ∀ σ H R, t' σ H R → t σ H R) : PI X tg iter t' := ⟨fun pins s σ H R I q => h.run pins s σ H R I (hi σ H R q)⟩
open Classical in
noncomputable def forM (lv : Lv) (g : GM) (body : SM) : List D → SM
  | [] => fun ρ S => if Live lv S then some (.nx ρ, S) else none
  | d :: ds => fun ρ S => if Live lv S then bnd (g d ρ) (fun ρ1 => bnd (body ρ1) fun o => match o with
      | .nx ρ2 => forM lv g body ds ρ2
      | .ct ρ2 => forM lv g body ds ρ2
      | .bk ρ2 => ret (.nx ρ2)
      | .rt r => ret (.rt r)) S else none
noncomputable def sFor (mi : IM) (g : GM) (body : SM) : SM := fun ρ => bnd (mi ρ) fun p => forM p.2 g body p.1 ρ
section
variable {X : Cx} {pos : Pos}
theorem s_for {tg iter : Expr} {body : List Stmt} {mi : IM} {g : GM} {mb : SM} {vs : List Nat} (hp : PassesOwn (model X.prog X.w) X.A X.env X.xe) (hc : X.calm = true) (hi : PI X tg iter (lI X.w X.K mi)) (hg : PG X tg (lG X.w X.K vs g)) (hb : PSs X body (lS X.w X.K mb))
    (hs : ∀ x, foldedSetIterable iter X.env x = pure x := by intro _; rfl) : PS X (.For tg iter body [] pos) (lS X.w X.K (sFor mi g mb)) := ps_imp (ps_for hp hc hi hg hb hs) fun D σ H h => by
  obtain ⟨μ, S, ρ, o, S', R, E, e, P⟩ := h
  obtain ⟨⟨items, lv⟩, S1, e1, e2⟩ := bnd_some e
  refine ⟨μ, S, ρ, items, lv, S1, R, E, e1, fun μ1 H1 J x1 R1 wk => ?_⟩
  refine ⟨fun i m σ2 H2 => m = items.length - i ∧ i ≤ items.length ∧ ∃ μ2 S2 ρ2, Ext μ H μ2 H2 ∧ Ext μ1 H1 μ2 H2 ∧ Rel X.w X.K μ2 H2 S2 ∧ RE X.K μ2 H2 σ2 ρ2 ∧ forM lv g mb (items.drop i) ρ2 S2 = some (o, S'),
    ⟨_, rfl, Nat.zero_le _, μ1, S1, ρ, x1, Ext.refl, R1, E.mono x1, e2⟩, ?_⟩
  rintro i m σ2 H2 ⟨rfl, hi, μ2, S2, ρ2, x2, x12, R2, E2, q⟩
  by_cases hlt : i < items.length
  · rw [List.drop_eq_getElem_cons hlt] at q
    unfold forM at q
    split at q
    · rename_i live
      obtain ⟨_, wg⟩ := wk μ2 H2 S2 x12.toExt0 R2 live
      obtain ⟨ρ3, S3, e3, e4⟩ := bnd_some q
      obtain ⟨o4, S4, e5, e6⟩ := bnd_some e4
      obtain ⟨go, yl⟩ := wg i items[i] (List.getElem?_eq_getElem hlt)
      refine .inr ⟨go, fun σ5 H5 => ∃ μ5 S5 ρ5, Ext μ H μ5 H5 ∧ Ext μ1 H1 μ5 H5 ∧ Rel X.w X.K μ5 H5 S5 ∧ RE X.K μ5 H5 σ5 ρ5 ∧ forM lv g mb (items.drop (i + 1)) ρ5 S5 = some (o, S'), fun σ5 H5 ⟨μ5, S5, ρ5, y1, y12, y2, y3, y4⟩ => ⟨_, by omega, rfl, hlt, μ5, S5, ρ5, y1, y12, y2, y3, y4⟩, fun x H3 hy => ?_⟩
      obtain ⟨x3, keep, rx⟩ := yl x H3 hy
      have R3 := R2.grow x3.toExt0 keep
      refine ⟨μ2, S2, ρ2, items[i], ρ3, S3, R3, E2.mono x3, rx, e3, fun μ4 H4 σ4 x4 R4 E4 _ => ⟨μ4, S3, ρ3, o4, S4, R4, E4, e5, ?_⟩⟩
      have y := x2.trans (x3.trans x4)
      have y12 := x12.trans (x3.trans x4)
      cases o4 with
      | nx ρ5 => exact fun μ6 H6 σ6 x6 R6 E6 => ⟨μ6, S4, ρ5, y.trans x6, y12.trans x6, R6, E6, e6⟩
      | ct ρ5 => exact fun μ6 H6 σ6 x6 R6 E6 => ⟨μ6, S4, ρ5, y.trans x6, y12.trans x6, R6, E6, e6⟩
      | bk ρ5 =>
        obtain ⟨rfl, rfl⟩ := Prod.mk.inj (Option.some.inj e6)
        exact fun μ6 H6 σ6 x6 => P μ6 H6 σ6 (y.trans x6)
      | rt r =>
        obtain ⟨rfl, rfl⟩ := Prod.mk.inj (Option.some.inj e6)
        exact P.step y
    · cases q
  · rw [List.drop_eq_nil_of_le (by omega)] at q
    unfold forM at q
    split at q
    · rename_i live
      obtain ⟨ws, _⟩ := wk μ2 H2 S2 x12.toExt0 R2 live
      obtain ⟨rfl, rfl⟩ := Prod.mk.inj (Option.some.inj q)
      exact .inl ⟨ws i (by omega), P μ2 H2 σ2 x2 R2 E2⟩
    · cases q
end

/-! ### while -/
def whileN (c : TM) (body : SM) : Nat → SM
  | 0 => fun _ => fail
  | n + 1 => fun ρ => bnd (c ρ) fun k => if k = true then bnd (body ρ) fun o => match o with
      | .nx ρ2 => whileN c body n ρ2
      | .ct ρ2 => whileN c body n ρ2
      | .bk ρ2 => ret (.nx ρ2)
      | .rt r => ret (.rt r)
    else ret (.nx ρ)
def sWhile (c : TM) (body : SM) : SM := whileN c body 1000000
section
variable {X : Cx} {pos : Pos}
theorem s_while {c : Expr} {body : List Stmt} {t : TM} {mb : SM} (hp : PassesOwn (model X.prog X.w) X.A X.env X.xe) (hc : PT X c (lT X.w X.K t)) (hb : PSs X body (lS X.w X.K mb)) : PS X (.While c body [] pos) (lS X.w X.K (sWhile t mb)) := ps_imp (ps_while hp hc hb) fun D σ H h => by
  obtain ⟨μ, S, ρ, o, S', R, E, e, P⟩ := h
  refine ⟨fun n σ2 H2 => ∃ μ2 S2 ρ2, Ext μ H μ2 H2 ∧ Rel X.w X.K μ2 H2 S2 ∧ RE X.K μ2 H2 σ2 ρ2 ∧ whileN t mb n ρ2 S2 = some (o, S'), ⟨1000000, μ, S, ρ, Ext.refl, R, E, e⟩, ?_⟩
  rintro n σ2 H2 ⟨μ2, S2, ρ2, x2, R2, E2, q⟩
  cases n with
  | zero => cases q
  | succ n =>
    unfold whileN at q
    obtain ⟨k, S3, e3, e4⟩ := bnd_some q
    refine ⟨μ2, S2, ρ2, k, S3, R2, E2, e3, fun μ3 H3 x3 R3 => ?_⟩
    cases k with
    | false =>
      obtain ⟨rfl, rfl⟩ := Prod.mk.inj (Option.some.inj e4)
      exact P μ3 H3 σ2 (x2.trans x3) R3 (E2.mono x3)
    | true =>
      obtain ⟨o4, S4, e5, e6⟩ := bnd_some e4
      refine ⟨fun σ5 H5 => ∃ μ5 S5 ρ5, Ext μ H μ5 H5 ∧ Rel X.w X.K μ5 H5 S5 ∧ RE X.K μ5 H5 σ5 ρ5 ∧ whileN t mb n ρ5 S5 = some (o, S'), fun σ5 H5 hh => ⟨n, Nat.lt_succ_self n, hh⟩, μ3, S3, ρ2, o4, S4, R3, E2.mono x3, e5, ?_⟩
      have y := x2.trans x3
      cases o4 with
      | nx ρ5 => exact fun μ6 H6 σ6 x6 R6 E6 => ⟨μ6, S4, ρ5, y.trans x6, R6, E6, e6⟩
      | ct ρ5 => exact fun μ6 H6 σ6 x6 R6 E6 => ⟨μ6, S4, ρ5, y.trans x6, R6, E6, e6⟩
      | bk ρ5 =>
        obtain ⟨rfl, rfl⟩ := Prod.mk.inj (Option.some.inj e6)
        exact fun μ6 H6 σ6 x6 => P μ6 H6 σ6 (y.trans x6)
      | rt r =>
        obtain ⟨rfl, rfl⟩ := Prod.mk.inj (Option.some.inj e6)
        exact P.step y
end
end VM

/-! VM4: list comprehensions, what is walked -/
namespace VM
open PySem PySem.Spec PyProof.Rows L2

@[simp] def wipeE (vs : List Nat) (ρ : Env) : Env := vs.foldr (fun i (r : Env) => r.set i none) ρ
def tTrue : TM := fun _ => ret true
open Classical in
noncomputable def compGo (lv : Lv) (g : GM) (t : TM) (me : EM) (ρ0 : Env) : List D → M (List D)
  | [] => fun S => if Live lv S then some ([], S) else none
  | d :: ds => fun S => if Live lv S then bnd (g d ρ0) (fun ρ1 => bnd (t ρ1) fun k => if k = true then bnd (me ρ1) fun y => bnd (compGo lv g t me ρ0 ds) fun r => ret (y :: r) else compGo lv g t me ρ0 ds) S else none
noncomputable def mComp (vs : List Nat) (mi : IM) (g : GM) (t : TM) (me : EM) : EM := fun ρ => bnd (mi ρ) fun p => bnd (compGo p.2 g t me (wipeE vs ρ) p.1) mkL
open Classical in
noncomputable def compGo2 (lv : Lv) (g : GM) (t : TM) (vs1 : List Nat) (mi1 : IM) (g1 : GM) (t1 : TM) (me : EM) (ρ0 : Env) : List D → M (List D)
  | [] => fun S => if Live lv S then some ([], S) else none
  | d :: ds => fun S => if Live lv S then bnd (g d ρ0) (fun ρ1 => bnd (t ρ1) fun k => if k = true then bnd (mi1 ρ1) fun p => bnd (compGo p.2 g1 t1 me (wipeE vs1 ρ1) p.1) fun r1 => bnd (compGo2 lv g t vs1 mi1 g1 t1 me ρ0 ds) fun r => ret (r1 ++ r)
      else compGo2 lv g t vs1 mi1 g1 t1 me ρ0 ds) S else none
noncomputable def mComp2 (vs : List Nat) (mi : IM) (g : GM) (t : TM) (vs1 : List Nat) (mi1 : IM) (g1 : GM) (t1 : TM) (me : EM) : EM := fun ρ => bnd (mi ρ) fun p => bnd (compGo2 p.2 g t vs1 mi1 g1 t1 me (wipeE vs ρ) p.1) mkL

section
variable {w : World} {K : PySem.W.Frag} {μ μ1 μ2 : List Addr} {H H1 H2 : Hp} {S S' : Store} {σ : L2.St} {ρ : Env}
theorem off_wipe (σ : L2.St) (vs : List Nat) : Off vs σ (L2.wipe σ vs) := ⟨L2.wipe_length σ vs, fun i hi => L2.wipe_out hi⟩
theorem wipe_wipe {vs ws : List Nat} {σ σ' : L2.St} (a : Off vs (L2.wipe σ ws) σ') (hs : ∀ i ∈ vs, i ∈ ws) : L2.wipe σ' ws = L2.wipe σ ws :=
  (a.wipe hs).trans ((off_wipe σ ws).wipe fun _ h => h)
/-- a new list under way, at p -/
theorem ext0_over {p : Addr} {o : HO} {vs : List V} (h : H p = some (.lst vs)) : Ext0 μ H μ (upd H p o) :=
  ⟨fun _ _ h => h, fun b ws e => by rw [upd_ne (ne_of e h fun z => by cases z)]; exact e, fun b ob u e => by rw [upd_ne (ne_of e h fun z => by cases z)]; exact e⟩
theorem ext_over {p : Addr} {o : HO} {vs : List V} (x : Ext μ1 H1 μ H) (hn : H1 p = none) (h : H p = some (.lst vs)) : Ext μ1 H1 μ (upd H p o) :=
  ⟨x.toExt0.trans (ext0_over h), fun q hq n => ⟨(upd_ne fun e => n (by rw [e]; exact hn)).trans (x.kp q hq n).1, (x.kp q hq n).2⟩⟩
theorem ext_snoc {p : Addr} (x : Ext μ1 H1 μ H) (hn : H1 p = none) : Ext μ1 H1 (μ ++ [p]) H :=
  ⟨⟨fun l b h => by rw [List.getElem?_append_left (List.getElem?_eq_some_iff.mp (x.pl l b h)).1]; exact x.pl l b h, x.tup, x.frz⟩, fun q hq n => ⟨(x.kp q hq n).1, fun hm => (List.mem_append.mp hm).elim (x.kp q hq n).2 fun z => n (by rw [List.mem_singleton.mp z]; exact hn)⟩⟩
theorem Rel.snoc (R : Rel w K μ H S) {a : Addr} {ob : Ob} (hn : a ∉ μ) (h : RO w K (μ ++ [a]) H a ob) : Rel w K (μ ++ [a]) H (S ++ [ob]) := by
  have e : Ext0 μ H (μ ++ [a]) H := ⟨fun l b h => by rw [List.getElem?_append_left (List.getElem?_eq_some_iff.mp h).1]; exact h, fun _ _ h => h, fun _ _ _ h => h⟩
  refine ⟨by rw [List.length_append, List.length_append, R.len]; rfl, ?_, fun l o' q => ?_⟩
  · rw [List.nodup_append]
    exact ⟨R.nd, by simp, fun x hx y hy => by
      rw [List.mem_singleton] at hy
      subst hy
      exact fun z => hn (z ▸ hx)⟩
  · by_cases hl : l < S.length
    · rw [List.getElem?_append_left hl] at q
      obtain ⟨b, h1, h2⟩ := R.ob l o' q
      exact ⟨b, e.pl _ _ h1, h2.mono0 e rfl⟩
    · have hl2 : l = S.length := by
        have := (List.getElem?_eq_some_iff.mp q).1
        rw [List.length_append] at this
        have e1 : ([ob] : List Ob).length = 1 := rfl
        omega
      subst hl2
      rw [List.getElem?_append_right (Nat.le_refl _), Nat.sub_self] at q
      obtain rfl := Option.some.inj q
      refine ⟨a, ?_, h⟩
      rw [← R.len, List.getElem?_append_right (Nat.le_refl _), Nat.sub_self]
      rfl
theorem Rel.notIn (R : Rel w K μ H S) {a : Addr} (hn : H a = none) : a ∉ μ := fun hm => by
  obtain ⟨u, h1, _⟩ := R.mem hm
  rw [hn] at h1
  cases h1
/-- the state of a comprehension: acc is made, the list stands at p, which is no place yet -/
structure Mid (w : World) (K : PySem.W.Frag) (μ0 : List Addr) (H0 : Hp) (p : Addr) (μ : List Addr) (H : Hp) (S : Store) (acc : List D) : Prop where
  ex : Ext μ0 H0 μ H
  rel : Rel w K μ H S
  out : p ∉ μ
  at_ : ∃ vs, H p = some (.lst vs) ∧ RVs K μ H vs acc
theorem Mid.step {p : Addr} {acc : List D} {μ0 : List Addr} {H0 : Hp} {S1 : Store} (m : Mid w K μ0 H0 p μ H S acc) (x : Ext μ H μ1 H1) (R : Rel w K μ1 H1 S1) : Mid w K μ0 H0 p μ1 H1 S1 acc := by
  obtain ⟨vs, h1, h2⟩ := m.at_
  obtain ⟨e, n⟩ := x.kp p m.out (by rw [h1]; simp)
  exact ⟨m.ex.trans x, R, n, vs, e.trans h1, h2.mono x⟩
theorem Mid.push {p : Addr} {acc : List D} {μ0 : List Addr} {H0 : Hp} {v : V} {d : D} (hn : H0 p = none) (m : Mid w K μ0 H0 p μ H S acc) (r : RV K μ H v d) {vs : List V} (h1 : H p = some (.lst vs)) : Mid w K μ0 H0 p μ (upd H p (.lst (vs ++ [v]))) S (acc ++ [d]) := by
  obtain ⟨vs', h1', h2⟩ := m.at_
  rw [h1] at h1'
  obtain rfl : vs = vs' := by
    have := Option.some.inj h1'
    injection this
  have e := ext0_over (μ := μ) (o := .lst (vs ++ [v])) h1
  refine ⟨ext_over m.ex hn h1, m.rel.grow e fun a ha => upd_ne fun z => m.out (z ▸ ha), m.out, _, upd_same, ?_⟩
  exact RVs.append (h2.mono0 e) (.cons (r.mono0 e) .nil)
theorem Mid.start {p : Addr} (hn : H p = none) (R : Rel w K μ H S) : Mid w K μ H p μ (upd H p (.lst [])) S [] :=
  ⟨ext_upd hn, R.new hn, R.notIn hn, [], upd_same, .nil⟩
theorem Mid.done {p : Addr} {acc : List D} {μ0 : List Addr} {H0 : Hp} (hn : H0 p = none) (m : Mid w K μ0 H0 p μ H S acc) : Ext μ0 H0 (μ ++ [p]) H ∧ Rel w K (μ ++ [p]) H (S ++ [.lst acc]) ∧ RV K (μ ++ [p]) H (.ref p) (.lst S.length) := by
  obtain ⟨vs, h1, h2⟩ := m.at_
  have e : Ext0 μ H (μ ++ [p]) H := ⟨fun l b h => by rw [List.getElem?_append_left (List.getElem?_eq_some_iff.mp h).1]; exact h, fun _ _ h => h, fun _ _ _ h => h⟩
  exact ⟨ext_snoc m.ex hn, m.rel.snoc (ob := .lst acc) m.out ⟨vs, h1, h2.mono0 e⟩, .lst (pl_last m.rel)⟩
end

theorem mkL_some {r : List D} {S : Store} {d : D} {S' : Store} (h : mkL r S = some (d, S')) : r.length ≤ lim ∧ d = .lst S.length ∧ S' = S ++ [.lst r] := by
  unfold mkL at h
  split at h
  · obtain ⟨rfl, rfl⟩ := Prod.mk.inj (Option.some.inj h)
    exact ⟨by assumption, rfl, rfl⟩
  · cases h

section
variable {w : World} {K : PySem.W.Frag} {σ : L2.St} {H : Hp} {Q : VK}
theorem lc_read {vs ws : List Nat} {mi : IM} {g : GM} {t : TM} {me : EM} (hs : ∀ i ∈ vs, i ∈ ws) (h : lE w K (mComp ws mi g t me) σ H Q) : tLc (lI w K mi) (lG w K vs g) (lT w K t) (lE w K me) ws σ H Q := by
  obtain ⟨μ, S, ρ, d, S', R, E, e, P⟩ := h
  obtain ⟨⟨items, lv⟩, S1, e1, e2⟩ := bnd_some e
  obtain ⟨rf, S3, e3, e4⟩ := bnd_some e2
  obtain ⟨hlim, rfl, rfl⟩ := mkL_some e4
  refine ⟨μ, S, ρ, items, lv, S1, R, E, e1, fun μ1 H1 J x1 R1 wk p hp => ?_⟩
  refine ⟨fun i m H2 => m = items.length - i ∧ i ≤ items.length ∧ ∃ μ2 S2 acc r, Mid w K μ1 H1 p μ2 H2 S2 acc ∧ compGo lv g t me (wipeE ws ρ) (items.drop i) S2 = some (r, S3) ∧ acc ++ r = rf,
    ⟨_, rfl, Nat.zero_le _, μ1, S1, [], rf, Mid.start hp R1, e3, rfl⟩, ?_⟩
  rintro i m H2 ⟨rfl, hi, μ2, S2, acc, r, M2, q, ea⟩
  by_cases hlt : i < items.length
  · rw [List.drop_eq_getElem_cons hlt] at q
    unfold compGo at q
    split at q
    · rename_i live
      obtain ⟨_, wg⟩ := wk μ2 H2 S2 M2.ex.toExt0 M2.rel live
      obtain ⟨ρ3, S4, q3, q4⟩ := bnd_some q
      obtain ⟨k, S5, q5, q6⟩ := bnd_some q4
      obtain ⟨go, yl⟩ := wg i items[i] (List.getElem?_eq_getElem hlt)
      refine .inr ⟨go, fun H5 => ∃ μ5 S5 acc5 r5, Mid w K μ1 H1 p μ5 H5 S5 acc5 ∧ compGo lv g t me (wipeE ws ρ) (items.drop (i + 1)) S5 = some (r5, S3) ∧ acc5 ++ r5 = rf, fun H5 hh => ⟨_, by omega, rfl, hlt, hh⟩, fun x H3 hy => ?_⟩
      obtain ⟨x3, keep, rx⟩ := yl x H3 hy
      have M3 := M2.step x3 (M2.rel.grow x3.toExt0 keep)
      refine ⟨μ2, S2, wipeE ws ρ, items[i], ρ3, S4, M3.rel, (E.mono (x1.trans M3.ex)).wipe ws, rx, q3, fun μ4 H4 σ4 x4 R4 E4 f4 => ⟨wipe_wipe f4 hs, μ4, S4, ρ3, k, S5, R4, E4, q5, fun μ5 H5 x5 R5 => ?_⟩⟩
      have M5 := (M3.step x4 R4).step x5 R5
      cases k with
      | false => exact ⟨μ5, S5, acc, r, M5, q6, ea⟩
      | true =>
        obtain ⟨y, S6, q7, q8⟩ := bnd_some q6
        obtain ⟨r6, S7, q9, q10⟩ := bnd_some q8
        obtain ⟨rfl, rfl⟩ := Prod.mk.inj (Option.some.inj q10)
        refine ⟨μ5, S5, ρ3, y, S6, R5, E4.mono x5, q7, fun μ6 H6 v x6 R6 r6 => ?_⟩
        have M6 := M5.step x6 R6
        obtain ⟨vs6, h6, hv6⟩ := M6.at_
        refine ⟨vs6, h6, ?_, μ6, S6, acc ++ [y], _, M6.push hp r6 h6, q9, by rw [← ea]; simp⟩
        have := lim_le
        have := congrArg List.length ea
        rw [List.length_append, List.length_cons] at this
        rw [hv6.length]
        omega
    · cases q
  · rw [List.drop_eq_nil_of_le (by omega)] at q
    unfold compGo at q
    split at q
    · rename_i live
      obtain ⟨wst, _⟩ := wk μ2 H2 S2 M2.ex.toExt0 M2.rel live
      obtain ⟨rfl, rfl⟩ := Prod.mk.inj (Option.some.inj q)
      rw [List.append_nil] at ea
      subst ea
      obtain ⟨d1, d2, d3⟩ := M2.done hp
      exact .inl ⟨wst i (by omega), P _ _ _ (x1.trans d1) d2 d3⟩
    · cases q
theorem lc2_read {vs ws vs1 ws1 : List Nat} {mi mi1 : IM} {g g1 : GM} {t t1 : TM} {me : EM} (hs : ∀ i ∈ vs, i ∈ ws) (hs1 : ∀ i ∈ vs1, i ∈ ws1) (h : lE w K (mComp2 ws mi g t ws1 mi1 g1 t1 me) σ H Q) :
    tLc2 (lI w K mi) (lG w K vs g) (lT w K t) (lI w K mi1) (lG w K vs1 g1) (lT w K t1) (lE w K me) ws ws1 σ H Q := by
  obtain ⟨μ, S, ρ, d, S', R, E, e, P⟩ := h
  obtain ⟨⟨items, lv⟩, S1, e1, e2⟩ := bnd_some e
  obtain ⟨rf, S3, e3, e4⟩ := bnd_some e2
  obtain ⟨hlim, rfl, rfl⟩ := mkL_some e4
  refine ⟨μ, S, ρ, items, lv, S1, R, E, e1, fun μ1 H1 J x1 R1 wk p hp => ?_⟩
  refine ⟨fun i m H2 => m = items.length - i ∧ i ≤ items.length ∧ ∃ μ2 S2 acc r, Mid w K μ1 H1 p μ2 H2 S2 acc ∧ compGo2 lv g t ws1 mi1 g1 t1 me (wipeE ws ρ) (items.drop i) S2 = some (r, S3) ∧ acc ++ r = rf,
    ⟨_, rfl, Nat.zero_le _, μ1, S1, [], rf, Mid.start hp R1, e3, rfl⟩, ?_⟩
  rintro i m H2 ⟨rfl, hi, μ2, S2, acc, r, M2, q, ea⟩
  by_cases hlt : i < items.length
  · rw [List.drop_eq_getElem_cons hlt] at q
    unfold compGo2 at q
    split at q
    · rename_i live
      obtain ⟨_, wg⟩ := wk μ2 H2 S2 M2.ex.toExt0 M2.rel live
      obtain ⟨ρ3, S4, q3, q4⟩ := bnd_some q
      obtain ⟨k, S5, q5, q6⟩ := bnd_some q4
      obtain ⟨go, yl⟩ := wg i items[i] (List.getElem?_eq_getElem hlt)
      refine .inr ⟨go, fun H5 => ∃ μ5 S5 acc5 r5, Mid w K μ1 H1 p μ5 H5 S5 acc5 ∧ compGo2 lv g t ws1 mi1 g1 t1 me (wipeE ws ρ) (items.drop (i + 1)) S5 = some (r5, S3) ∧ acc5 ++ r5 = rf, fun H5 hh => ⟨_, by omega, rfl, hlt, hh⟩, fun x H3 hy => ?_⟩
      obtain ⟨x3, keep, rx⟩ := yl x H3 hy
      have M3 := M2.step x3 (M2.rel.grow x3.toExt0 keep)
      refine ⟨μ2, S2, wipeE ws ρ, items[i], ρ3, S4, M3.rel, (E.mono (x1.trans M3.ex)).wipe ws, rx, q3, fun μ4 H4 σ4 x4 R4 E4 f4 => ⟨wipe_wipe f4 hs, μ4, S4, ρ3, k, S5, R4, E4, q5, fun μ5 H5 x5 R5 => ?_⟩⟩
      have M5 := (M3.step x4 R4).step x5 R5
      cases k with
      | false => exact ⟨μ5, S5, acc, r, M5, q6, ea⟩
      | true =>
        obtain ⟨⟨items1, lv1⟩, S6, q7, q8⟩ := bnd_some q6
        obtain ⟨r1, S7, q9, q10⟩ := bnd_some q8
        obtain ⟨r2, S8, q11, q12⟩ := bnd_some q10
        obtain ⟨rfl, rfl⟩ := Prod.mk.inj (Option.some.inj q12)
        refine ⟨μ5, S5, ρ3, items1, lv1, S6, R5, E4.mono x5, q7, fun μ6 H6 J1 x6 R6 wk1 => ?_⟩
        have M6 := M5.step x6 R6
        refine ⟨fun j m H7 => m = items1.length - j ∧ j ≤ items1.length ∧ ∃ μ7 S7' acc7 r7, Ext0 μ6 H6 μ7 H7 ∧ Mid w K μ1 H1 p μ7 H7 S7' acc7 ∧ compGo lv1 g1 t1 me (wipeE ws1 ρ3) (items1.drop j) S7' = some (r7, S7) ∧ acc7 ++ (r7 ++ r2) = rf,
          ⟨_, rfl, Nat.zero_le _, μ6, S6, acc, r1, Ext0.refl, M6, q9, ea⟩, ?_⟩
        have E6 := (E4.mono x5).mono x6
        rintro j m H7 ⟨rfl, hj, μ7, S7', acc7, r7, y7, M7, q7', ea7⟩
        by_cases hlt1 : j < items1.length
        · rw [List.drop_eq_getElem_cons hlt1] at q7'
          unfold compGo at q7'
          split at q7'
          · rename_i live1
            obtain ⟨_, wg1⟩ := wk1 μ7 H7 S7' y7 M7.rel live1
            obtain ⟨ρ8, S8', q13, q14⟩ := bnd_some q7'
            obtain ⟨k1, S9, q15, q16⟩ := bnd_some q14
            obtain ⟨go1, yl1⟩ := wg1 j items1[j] (List.getElem?_eq_getElem hlt1)
            refine .inr ⟨go1, fun H9 => ∃ μ9 S9 acc9 r9, Ext0 μ6 H6 μ9 H9 ∧ Mid w K μ1 H1 p μ9 H9 S9 acc9 ∧ compGo lv1 g1 t1 me (wipeE ws1 ρ3) (items1.drop (j + 1)) S9 = some (r9, S7) ∧ acc9 ++ (r9 ++ r2) = rf, fun H9 hh => ⟨_, by omega, rfl, hlt1, hh⟩, fun x H8 hy1 => ?_⟩
            obtain ⟨x8, keep1, rx1⟩ := yl1 x H8 hy1
            have M8 := M7.step x8 (M7.rel.grow x8.toExt0 keep1)
            refine ⟨μ7, S7', wipeE ws1 ρ3, items1[j], ρ8, S8', M8.rel, (E6.mono0 (y7.trans x8.toExt0)).wipe ws1, rx1, q13, fun μ9 H9 σ9 x9 R9 E9 f9 => ⟨wipe_wipe f9 hs1, μ9, S8', ρ8, k1, S9, R9, E9, q15, fun μ10 H10 x10 R10 => ?_⟩⟩
            have M10 := (M8.step x9 R9).step x10 R10
            have y10 := y7.trans (x8.toExt0.trans (x9.toExt0.trans x10.toExt0))
            cases k1 with
            | false => exact ⟨μ10, S9, acc7, r7, y10, M10, q16, ea7⟩
            | true =>
              obtain ⟨y, S11, q17, q18⟩ := bnd_some q16
              obtain ⟨r11, S12, q19, q20⟩ := bnd_some q18
              obtain ⟨rfl, rfl⟩ := Prod.mk.inj (Option.some.inj q20)
              refine ⟨μ10, S9, ρ8, y, S11, R10, E9.mono x10, q17, fun μ11 H11 v x11 R11 rv => ?_⟩
              have M11 := M10.step x11 R11
              obtain ⟨vs11, h11, hv11⟩ := M11.at_
              refine ⟨vs11, h11, ?_, μ11, S11, acc7 ++ [y], _, (y10.trans x11.toExt0).trans (ext0_over h11), M11.push hp rv h11, q19, by rw [← ea7]; simp⟩
              have := lim_le
              have := congrArg List.length ea7
              rw [List.length_append, List.cons_append, List.length_cons] at this
              rw [hv11.length]
              omega
          · cases q7'
        · rw [List.drop_eq_nil_of_le (by omega)] at q7'
          unfold compGo at q7'
          split at q7'
          · rename_i live1
            obtain ⟨ws1', _⟩ := wk1 μ7 H7 S7' y7 M7.rel live1
            obtain ⟨rfl, rfl⟩ := Prod.mk.inj (Option.some.inj q7')
            exact .inl ⟨ws1' j (by omega), μ7, _, acc7, r2, M7, q11, ea7⟩
          · cases q7'
    · cases q
  · rw [List.drop_eq_nil_of_le (by omega)] at q
    unfold compGo2 at q
    split at q
    · rename_i live
      obtain ⟨wst, _⟩ := wk μ2 H2 S2 M2.ex.toExt0 M2.rel live
      obtain ⟨rfl, rfl⟩ := Prod.mk.inj (Option.some.inj q)
      rw [List.append_nil] at ea
      subst ea
      obtain ⟨d1, d2, d3⟩ := M2.done hp
      exact .inl ⟨wst i (by omega), P _ _ _ (x1.trans d1) d2 d3⟩
    · cases q
end
end VM

/-! VM5: operations by values -/
namespace VM
open PySem PySem.Spec PyProof.Rows L2

structure Good (X : Cx) : Prop where
  calm : X.calm = true
  gd : X.A.guards = some []
  un : X.A.units + 130 < cLine

/-! ### a value as data -/
def pyL (f : D → Option PyData) : List D → Option (List PyData)
  | [] => some []
  | d :: ds => match f d, pyL f ds with
    | some p, some ps => some (p :: ps)
    | _, _ => none
def D.py (S : Store) : Nat → D → Option PyData
  | 0, _ => none
  | n + 1, d => match d with
    | .non => some .none
    | .bl b => some (.bool b)
    | .int i => some (.int i)
    | .str x => if (PyData.str x).canLay0 = true then some (.str x) else none
    | .tup ds => (pyL (D.py S n) ds).map .tuple
    | .fz ds => (pyL (D.py S n) ds).map .list
    | .lst l => match S[l]? with
      | some (.lst ds) => (pyL (D.py S n) ds).map .list
      | _ => none
    | .dct _ => none
    | .pr _ => none
theorem pyL_some {f : D → Option PyData} : ∀ {ds : List D} {ps : List PyData}, pyL f ds = some ps → Paired (fun d p => f d = some p) ds ps
  | [], _, h => by obtain rfl := Option.some.inj h; exact .nil
  | d :: ds, ps, h => by
    unfold pyL at h
    split at h
    · rename_i p q h1 h2
      obtain rfl := Option.some.inj h
      exact .cons h1 (pyL_some h2)
    · cases h
theorem py_lay {S : Store} : ∀ {n : Nat} {d : D} {p : PyData}, D.py S n d = some p → p.canLay0 = true ∧ p.depth ≤ n
  | 0, _, _, h => by cases h
  | n + 1, d, p, h => by
    have all : ∀ {ds : List D} {ps : List PyData}, Paired (fun d p => D.py S n d = some p) ds ps → PyData.canLayAll0 ps = true ∧ PyData.depthAll ps ≤ n := by
      intro ds ps hp
      induction hp with
      | nil => exact ⟨rfl, Nat.zero_le _⟩
      | cons h1 _ ih =>
        obtain ⟨a1, a2⟩ := py_lay h1
        refine ⟨?_, ?_⟩
        · rw [PyData.canLayAll0, a1, ih.1]; rfl
        · rw [PyData.depthAll]; exact Nat.max_le.mpr ⟨a2, ih.2⟩
    unfold D.py at h
    cases d with
    | non => obtain rfl := Option.some.inj h; exact ⟨by simp [PyData.canLay0], by simp [PyData.depth]⟩
    | bl b => obtain rfl := Option.some.inj h; exact ⟨by simp [PyData.canLay0], by simp [PyData.depth]⟩
    | int i => obtain rfl := Option.some.inj h; exact ⟨by simp [PyData.canLay0], by simp [PyData.depth]⟩
    | str x =>
      dsimp only at h
      split at h
      · obtain rfl := Option.some.inj h; exact ⟨by assumption, by simp [PyData.depth]⟩
      · cases h
    | tup ds =>
      obtain ⟨ps, e, rfl⟩ := Option.map_eq_some_iff.mp h
      obtain ⟨a1, a2⟩ := all (pyL_some e)
      exact ⟨by rw [PyData.canLay0]; exact a1, by rw [PyData.depth]; omega⟩
    | fz ds =>
      obtain ⟨ps, e, rfl⟩ := Option.map_eq_some_iff.mp h
      obtain ⟨a1, a2⟩ := all (pyL_some e)
      exact ⟨by rw [PyData.canLay0]; exact a1, by rw [PyData.depth]; omega⟩
    | pr _ => cases h
    | lst l =>
      dsimp only at h
      split at h
      · obtain ⟨ps, e, rfl⟩ := Option.map_eq_some_iff.mp h
        obtain ⟨a1, a2⟩ := all (pyL_some e)
        exact ⟨by rw [PyData.canLay0]; exact a1, by rw [PyData.depth]; omega⟩
      · cases h
    | dct l => cases h
theorem py_shaped {S : Store} {n : Nat} {d : D} {p : PyData} (h : D.py S n d = some p) (hn : n ≤ 60) : SeqAt.shaped p = true := by
  obtain ⟨a1, a2⟩ := py_lay h
  unfold SeqAt.shaped
  rw [a1, decide_eq_true (by omega)]
  rfl
section
variable {w : World} {K : PySem.W.Frag} {μ : List Addr} {H : Hp} {S : Store}
theorem py_dp (R : Rel w K μ H S) : ∀ {n : Nat} {d : D} {p : PyData} {v : V}, D.py S n d = some p → RV K μ H v d → Dp K H v p
  | 0, _, _, _, h, _ => by cases h
  | n + 1, d, p, v, h, r => by
    have all : ∀ {ds : List D} {ps : List PyData} {vs : List V}, Paired (fun d p => D.py S n d = some p) ds ps → RVs K μ H vs ds → DpAll K H vs ps := by
      intro ds ps vs hp
      induction hp generalizing vs with
      | nil => intro hr; cases hr; exact .nil
      | cons h1 _ ih =>
        intro hr
        cases hr with
        | cons r1 r2 => exact .cons (py_dp R h1 r1) (ih r2)
    unfold D.py at h
    cases r with
    | non => obtain rfl := Option.some.inj h; exact .non
    | bl b => obtain rfl := Option.some.inj h; exact .bl b
    | int i => obtain rfl := Option.some.inj h; exact .int i
    | str x =>
      dsimp only at h
      split at h
      · obtain rfl := Option.some.inj h; exact .str x
      · cases h
    | tup hq rs =>
      obtain ⟨ps, e, rfl⟩ := Option.map_eq_some_iff.mp h
      exact .tup hq.sq (all (pyL_some e) rs)
    | pr _ _ => cases h
    | fz hq rs =>
      obtain ⟨ps, e, rfl⟩ := Option.map_eq_some_iff.mp h
      exact .lst hq.sq (all (pyL_some e) rs)
    | lst hl =>
      dsimp only at h
      split at h
      · rename_i ds hS
        obtain ⟨ps, e, rfl⟩ := Option.map_eq_some_iff.mp h
        obtain ⟨a', h1, vs, h2, h3⟩ := R.ob _ _ hS
        rw [hl] at h1
        obtain rfl := Option.some.inj h1
        exact .lst (.inl (.inl h2)) (all (pyL_some e) h3)
      · cases h
    | dct _ => cases h
end

/-! ### the operations -/
def addM : D → D → M D
  | .int i, .int j => ret (.int (i + j))
  | .tup a, .tup b => mkT (a ++ b)
  | .lst l, .lst m => fun S => match S[l]?, S[m]? with
    | some (.lst a), some (.lst b) => mkL (a ++ b) S
    | _, _ => none
  | _, _ => fail
def subM : D → D → M D
  | .int i, .int j => ret (.int (i - j))
  | _, _ => fail
def mulM : D → D → M D
  | .int i, .int j => if (-(2 ^ 64) < i ∧ i < 2 ^ 64) ∨ (-(2 ^ 64) < j ∧ j < 2 ^ 64) then ret (.int (i * j)) else fail
  | .lst l, .int k => fun S => match S[l]? with
    | some (.lst a) => if a.length * k.toNat ≤ lim ∧ -1000000 ≤ k ∧ k ≤ 1000000 then some (.lst S.length, S ++ [.lst (List.replicate k.toNat a).flatten]) else none
    | _ => none
  | _, _ => fail
def fdivM : D → D → M D
  | .int i, .int j => if 0 < j ∧ j < 1073741824 then ret (.int (i / j)) else fail
  | _, _ => fail
def modM : D → D → M D
  | .int i, .int j => if 0 < j then ret (.int (i % j)) else fail
  | _, _ => fail
def shlM : D → D → M D
  | .int i, .int j => if 0 ≤ j ∧ j ≤ 1000000 ∧ i.natAbs < 2 ^ 64 then ret (.int (i * 2 ^ j.toNat)) else fail
  | _, _ => fail
def negM : D → M D
  | .int i => ret (.int (-i))
  | _ => fail
def eqM0 (a b : D) : M D := fun S => match D.py S 9 a, D.py S 9 b with
  | some p, some q => some (.bl (PyData.eqv p q), S)
  | _, _ => none
def eqM : D → D → M D
  | .str x, .str y => ret (.bl (decide (x = y)))
  | a, b => eqM0 a b
def neM (a b : D) : M D := fun S => match D.py S 9 a, D.py S 9 b with
  | some p, some q => some (.bl (!PyData.eqv p q), S)
  | _, _ => none
def isNone : PyData → Bool
  | .none => true
  | _ => false
def ltM (a b : D) : M D := fun S => match D.py S 9 a, D.py S 9 b with
  | some p, some q => if PySem.W.alike p q = true ∧ isNone p = false then some (.bl (PySem.W.dataLt p q), S) else none
  | _, _ => none
def leM (a b : D) : M D := fun S => match D.py S 9 a, D.py S 9 b with
  | some p, some q => if PySem.W.alike p q = true ∧ isNone p = false then some (.bl (!PySem.W.dataLt q p), S) else none
  | _, _ => none
def gtM (a b : D) : M D := ltM b a
def geM (a b : D) : M D := leM b a
def isNon : D → Bool
  | .non => true
  | _ => false
def isM : D → D → M D
  | a, .non => ret (.bl (isNon a))
  | .bl a, .bl b => ret (.bl (decide (a = b)))
  | _, _ => fail
def isnM : D → D → M D
  | a, .non => ret (.bl (!isNon a))
  | .bl a, .bl b => ret (.bl (!decide (a = b)))
  | _, _ => fail
section
variable {X : Cx}
theorem o_add : OpR X (binaryOp .Add) (lR2 X.w X.K addM) := by
  intro pins s σ H x y v u Q I rx ry h
  obtain ⟨μ, S, d1, d2, d, S', R, r1, r2, e, P⟩ := h
  cases r1 with
  | int i =>
    cases r2 with
    | int j =>
      obtain ⟨rfl, rfl⟩ := Prod.mk.inj (Option.some.inj e)
      exact op_add pins s σ H _ _ v u Q I rx ry ⟨i, j, rfl, rfl, post_val R (.int _) P⟩
    | _ => cases e
  | tup h1 q1 =>
    cases r2 with
    | tup h2 q2 =>
      unfold addM mkT at e
      dsimp only at e
      split at e
      · rename_i hl
        obtain ⟨rfl, rfl⟩ := Prod.mk.inj (Option.some.inj e)
        refine op_catN pins s σ H _ _ v u Q I rx ry ⟨_, _, _, _, rfl, rfl, h1.sq, h2.sq, ?_, fun e0 => ?_, fun _ e0 => ?_, fun _ _ p o ho hn => ?_⟩
        · have := lim_le
          rw [q1.length, q2.length]
          rw [List.length_append] at hl
          omega
        · subst e0
          cases q1
          exact post_val R (.tup h2 q2) P
        · subst e0
          cases q2
          rw [List.append_nil] at P
          exact post_val R (.tup h1 q1) P
        · exact post_new R hn (.tup (.new ho) ((RVs.append q1 q2).mono (ext_upd hn))) P
      · cases e
    | _ => cases e
  | lst h1 =>
    cases r2 with
    | lst h2 =>
      unfold addM at e
      dsimp only at e
      split at e
      · rename_i a b e1 e2
        obtain ⟨hl, rfl, rfl⟩ := mkL_some e
        obtain ⟨a1, k1, vs1, k2, k3⟩ := R.ob _ _ e1
        obtain ⟨a2, k4, vs2, k5, k6⟩ := R.ob _ _ e2
        rw [h1] at k1
        obtain rfl := Option.some.inj k1
        rw [h2] at k4
        obtain rfl := Option.some.inj k4
        refine op_cat pins s σ H _ _ v u Q I rx ry ⟨_, _, _, _, rfl, rfl, k2, k5, ?_, fun p hn => post_list R hn (RVs.append k3 k6) P⟩
        have := lim_le
        rw [k3.length, k6.length]
        rw [List.length_append] at hl
        omega
      · cases e
    | _ => cases e
  | _ => cases r2 <;> cases e
theorem o_sub : OpR X (binaryOp .Sub) (lR2 X.w X.K subM) := by
  intro pins s σ H x y v u Q I rx ry h
  obtain ⟨μ, S, d1, d2, d, S', R, r1, r2, e, P⟩ := h
  cases r1 with
  | int i =>
    cases r2 with
    | int j =>
      obtain ⟨rfl, rfl⟩ := Prod.mk.inj (Option.some.inj e)
      exact op_sub pins s σ H _ _ v u Q I rx ry ⟨i, j, rfl, rfl, post_val R (.int _) P⟩
    | _ => cases e
  | _ => cases r2 <;> cases e
theorem rvs_rep {K : PySem.W.Frag} {μ : List Addr} {H : Hp} {vs : List V} {ds : List D} (r : RVs K μ H vs ds) : ∀ k : Nat, RVs K μ H (List.replicate k vs).flatten (List.replicate k ds).flatten
  | 0 => .nil
  | k + 1 => by
    rw [List.replicate_succ, List.replicate_succ, List.flatten_cons, List.flatten_cons]
    exact RVs.append r (rvs_rep r k)
theorem o_mul : OpR X (binaryOp .Mult) (lR2 X.w X.K mulM) := by
  intro pins s σ H x y v u Q I rx ry h
  obtain ⟨μ, S, d1, d2, d, S', R, r1, r2, e, P⟩ := h
  cases r1 with
  | int i =>
    cases r2 with
    | int j =>
      unfold mulM at e
      dsimp only at e
      split at e
      · rename_i hc
        obtain ⟨rfl, rfl⟩ := Prod.mk.inj (Option.some.inj e)
        exact op_mul pins s σ H _ _ v u Q I rx ry ⟨i, j, rfl, rfl, hc, post_val R (.int _) P⟩
      · cases e
    | _ => cases e
  | lst h1 =>
    cases r2 with
    | int k =>
      unfold mulM at e
      dsimp only at e
      split at e
      · rename_i a e1
        split at e
        · rename_i hc
          obtain ⟨c1, c2, c3⟩ := hc
          obtain ⟨rfl, rfl⟩ := Prod.mk.inj (Option.some.inj e)
          obtain ⟨a1, k1, vs1, k2, k3⟩ := R.ob _ _ e1
          rw [h1] at k1
          obtain rfl := Option.some.inj k1
          refine op_rep pins s σ H _ _ v u Q I rx ry ⟨_, _, _, rfl, rfl, k2, by omega, by omega, ?_, fun p hn => post_list R hn (rvs_rep k3 _) P⟩
          rw [k3.length]
          exact Nat.le_trans c1 lim_le
        · cases e
      · cases e
    | _ => cases e
  | _ => cases r2 <;> cases e
theorem o_fdiv : OpR X (binaryOp .FloorDiv) (lR2 X.w X.K fdivM) := by
  intro pins s σ H x y v u Q I rx ry h
  obtain ⟨μ, S, d1, d2, d, S', R, r1, r2, e, P⟩ := h
  cases r1 with
  | int i =>
    cases r2 with
    | int j =>
      unfold fdivM at e
      dsimp only at e
      split at e
      · rename_i hc
        obtain ⟨rfl, rfl⟩ := Prod.mk.inj (Option.some.inj e)
        exact op_fdiv pins s σ H _ _ v u Q I rx ry ⟨i, j, rfl, rfl, hc, post_val R (.int _) P⟩
      · cases e
    | _ => cases e
  | _ => cases r2 <;> cases e
theorem o_mod : OpR X (binaryOp .Mod) (lR2 X.w X.K modM) := by
  intro pins s σ H x y v u Q I rx ry h
  obtain ⟨μ, S, d1, d2, d, S', R, r1, r2, e, P⟩ := h
  cases r1 with
  | int i =>
    cases r2 with
    | int j =>
      unfold modM at e
      dsimp only at e
      split at e
      · rename_i hc
        obtain ⟨rfl, rfl⟩ := Prod.mk.inj (Option.some.inj e)
        exact op_mod pins s σ H _ _ v u Q I rx ry ⟨i, j, rfl, rfl, hc, post_val R (.int _) P⟩
      · cases e
    | _ => cases e
  | _ => cases r2 <;> cases e
theorem o_shl : OpR X (binaryOp .LShift) (lR2 X.w X.K shlM) := by
  intro pins s σ H x y v u Q I rx ry h
  obtain ⟨μ, S, d1, d2, d, S', R, r1, r2, e, P⟩ := h
  cases r1 with
  | int i =>
    cases r2 with
    | int j =>
      unfold shlM at e
      dsimp only at e
      split at e
      · rename_i hc
        obtain ⟨rfl, rfl⟩ := Prod.mk.inj (Option.some.inj e)
        exact op_shl pins s σ H _ _ v u Q I rx ry ⟨i, j, rfl, rfl, hc, post_val R (.int _) P⟩
      · cases e
    | _ => cases e
  | _ => cases r2 <;> cases e
theorem u_neg : UnR X (unaryOp .USub) (lR1 X.w X.K negM) := by
  intro pins s σ H x v Q I rx h
  obtain ⟨μ, S, d1, d, S', R, r1, e, P⟩ := h
  cases r1 with
  | int i =>
    obtain ⟨rfl, rfl⟩ := Prod.mk.inj (Option.some.inj e)
    exact un_neg pins s σ H _ v Q I rx ⟨i, rfl, post_val R (.int _) P⟩
  | _ => cases e
theorem room9 (G : Good X) : X.A.units + 64 < cLine := by have := G.un; omega
theorem o_eq0 (G : Good X) : OpR X (compareOp .Eq) (lR2 X.w X.K eqM0) := by
  intro pins s σ H x y v u Q I rx ry h
  obtain ⟨μ, S, d1, d2, d, S', R, r1, r2, e, P⟩ := h
  unfold eqM0 at e
  split at e
  · rename_i p q e1 e2
    obtain ⟨rfl, rfl⟩ := Prod.mk.inj (Option.some.inj e)
    exact op_eqD (room9 G) pins s σ H x y v u Q I rx ry ⟨p, q, py_dp R e1 r1, py_dp R e2 r2, py_shaped e1 (by decide), py_shaped e2 (by decide), post_val R (.bl _) P⟩
  · cases e
theorem o_eq (G : Good X) : OpR X (compareOp .Eq) (lR2 X.w X.K eqM) := by
  intro pins s σ H x y v u Q I rx ry h
  obtain ⟨μ, S, d1, d2, d, S', R, r1, r2, e, P⟩ := h
  unfold eqM at e
  split at e
  · obtain ⟨rfl, rfl⟩ := Prod.mk.inj (Option.some.inj e)
    cases r1
    cases r2
    refine op_eq pins s σ H _ _ v u Q I rx ry ⟨rfl, ?_⟩
    have e2 : ∀ (i j : Str), decide (V.str i = V.str j) = decide (i = j) := fun i j => by
      refine decide_eq_decide.mpr ?_
      simp
    rw [e2]
    exact post_val R (.bl _) P
  · exact o_eq0 G pins s σ H x y v u Q I rx ry ⟨μ, S, _, _, d, S', R, r1, r2, e, P⟩
theorem o_ne (G : Good X) : OpR X (compareOp .NotEq) (lR2 X.w X.K neM) := by
  intro pins s σ H x y v u Q I rx ry h
  obtain ⟨μ, S, d1, d2, d, S', R, r1, r2, e, P⟩ := h
  unfold neM at e
  split at e
  · rename_i p q e1 e2
    obtain ⟨rfl, rfl⟩ := Prod.mk.inj (Option.some.inj e)
    exact op_neD (room9 G) pins s σ H x y v u Q I rx ry ⟨p, q, py_dp R e1 r1, py_dp R e2 r2, py_shaped e1 (by decide), py_shaped e2 (by decide), post_val R (.bl _) P⟩
  · cases e
theorem ne_none {p : PyData} (h : isNone p = false) : p ≠ .none := fun e => by rw [e] at h; cases h
theorem depth9 {S : Store} {d : D} {p q : PyData} (G : Good X) (h : D.py S 9 d = some p) : X.A.units + min p.depth q.depth < cLine := by
  have := (py_lay h).2
  have := G.un
  have := Nat.min_le_left p.depth q.depth
  omega
theorem o_lt (G : Good X) : OpR X (compareOp .Lt) (lR2 X.w X.K ltM) := by
  intro pins s σ H x y v u Q I rx ry h
  obtain ⟨μ, S, d1, d2, d, S', R, r1, r2, e, P⟩ := h
  unfold ltM at e
  split at e
  · rename_i p q e1 e2
    split at e
    · rename_i hc
      obtain ⟨rfl, rfl⟩ := Prod.mk.inj (Option.some.inj e)
      obtain ⟨as, q1⟩ := Dp.reads I p x v (py_dp R e1 r1) rx
      obtain ⟨bs, q2⟩ := Dp.reads I q y u (py_dp R e2 r2) ry
      exact PySem.W.lt_data q1 q2 hc.1 (ne_none hc.2) (depth9 G e1) ⟨.bl _, H, I, rfl, post_val R (.bl _) P⟩
    · cases e
  · cases e
theorem o_le (G : Good X) : OpR X (compareOp .LtE) (lR2 X.w X.K leM) := by
  intro pins s σ H x y v u Q I rx ry h
  obtain ⟨μ, S, d1, d2, d, S', R, r1, r2, e, P⟩ := h
  unfold leM at e
  split at e
  · rename_i p q e1 e2
    split at e
    · rename_i hc
      obtain ⟨rfl, rfl⟩ := Prod.mk.inj (Option.some.inj e)
      obtain ⟨as, q1⟩ := Dp.reads I p x v (py_dp R e1 r1) rx
      obtain ⟨bs, q2⟩ := Dp.reads I q y u (py_dp R e2 r2) ry
      exact PySem.W.le_data q1 q2 hc.1 (ne_none hc.2) (depth9 G e1) ⟨.bl _, H, I, rfl, post_val R (.bl _) P⟩
    · cases e
  · cases e
theorem isNone_swap {p q : PyData} (ha : PySem.W.alike p q = true) (hn : isNone p = false) : PySem.W.alike q p = true ∧ q ≠ .none := by
  refine ⟨by rw [← PySem.W.alike_comm]; exact ha, fun e => ?_⟩
  subst e
  exact absurd rfl (PySem.W.ne_none_both (x := p) (y := .none) ha (ne_none hn))
theorem o_gt (G : Good X) : OpR X (compareOp .Gt) (lR2 X.w X.K gtM) := by
  intro pins s σ H x y v u Q I rx ry h
  obtain ⟨μ, S, d1, d2, d, S', R, r1, r2, e, P⟩ := h
  unfold gtM ltM at e
  split at e
  · rename_i p q e1 e2
    split at e
    · rename_i hc
      obtain ⟨rfl, rfl⟩ := Prod.mk.inj (Option.some.inj e)
      obtain ⟨as, q1⟩ := Dp.reads I q x v (py_dp R e2 r1) rx
      obtain ⟨bs, q2⟩ := Dp.reads I p y u (py_dp R e1 r2) ry
      obtain ⟨h1, h2⟩ := isNone_swap hc.1 hc.2
      exact PySem.W.gt_data q1 q2 h1 h2 (depth9 G e2) ⟨.bl _, H, I, rfl, post_val R (.bl _) P⟩
    · cases e
  · cases e
theorem o_ge (G : Good X) : OpR X (compareOp .GtE) (lR2 X.w X.K geM) := by
  intro pins s σ H x y v u Q I rx ry h
  obtain ⟨μ, S, d1, d2, d, S', R, r1, r2, e, P⟩ := h
  unfold geM leM at e
  split at e
  · rename_i p q e1 e2
    split at e
    · rename_i hc
      obtain ⟨rfl, rfl⟩ := Prod.mk.inj (Option.some.inj e)
      obtain ⟨as, q1⟩ := Dp.reads I q x v (py_dp R e2 r1) rx
      obtain ⟨bs, q2⟩ := Dp.reads I p y u (py_dp R e1 r2) ry
      obtain ⟨h1, h2⟩ := isNone_swap hc.1 hc.2
      exact PySem.W.ge_data q1 q2 h1 h2 (depth9 G e2) ⟨.bl _, H, I, rfl, post_val R (.bl _) P⟩
    · cases e
  · cases e
theorem rv_non {K : PySem.W.Frag} {μ : List Addr} {H : Hp} {v : V} {d : D} (r : RV K μ H v d) : decide (v = .non) = isNon d := by
  cases r <;> rfl
theorem o_is : OpR X (compareOp .Is) (lR2 X.w X.K isM) := by
  intro pins s σ H x y v u Q I rx ry h
  obtain ⟨μ, S, d1, d2, d, S', R, r1, r2, e, P⟩ := h
  cases r2 with
  | non =>
    have e' : some (D.bl (isNon d1), S) = some (d, S') := by rw [← e]; cases d1 <;> rfl
    obtain ⟨rfl, rfl⟩ := Prod.mk.inj (Option.some.inj e')
    exact op_isN pins s σ H x _ v u Q I rx ry ⟨rfl, by rw [rv_non r1]; exact post_val R (.bl _) P⟩
  | bl b =>
    cases r1 with
    | bl a =>
      obtain ⟨rfl, rfl⟩ := Prod.mk.inj (Option.some.inj e)
      exact op_isBl pins s σ H _ _ v u Q I rx ry ⟨a, b, rfl, rfl, post_val R (.bl _) P⟩
    | _ => cases e
  | _ => cases r1 <;> cases e
theorem o_isn : OpR X (compareOp .IsNot) (lR2 X.w X.K isnM) := by
  intro pins s σ H x y v u Q I rx ry h
  obtain ⟨μ, S, d1, d2, d, S', R, r1, r2, e, P⟩ := h
  cases r2 with
  | non =>
    have e' : some (D.bl (!isNon d1), S) = some (d, S') := by rw [← e]; cases d1 <;> rfl
    obtain ⟨rfl, rfl⟩ := Prod.mk.inj (Option.some.inj e')
    exact op_notN pins s σ H x _ v u Q I rx ry ⟨rfl, by rw [rv_non r1]; exact post_val R (.bl _) P⟩
  | bl b =>
    cases r1 with
    | bl a =>
      obtain ⟨rfl, rfl⟩ := Prod.mk.inj (Option.some.inj e)
      exact op_notBl pins s σ H _ _ v u Q I rx ry ⟨a, b, rfl, rfl, post_val R (.bl _) P⟩
    | _ => cases e
  | _ => cases r1 <;> cases e
end
end VM

/-! VM6: subscripts, slices, in, built-in functions and methods of lists and tuples -/
namespace VM
open PySem PySem.Spec PyProof.Rows L2

/-! ### what is a row -/
def seqOf (S : Store) : D → Option (List D)
  | .tup ds => some ds
  | .fz ds => some ds
  | .lst l => match S[l]? with
    | some (.lst ds) => some ds
    | _ => none
  | _ => none
section
variable {w : World} {K : PySem.W.Frag} {μ : List Addr} {H : Hp} {S : Store}
theorem rv_seqN (R : Rel w K μ H S) {v : V} {d : D} {ds : List D} (r : RV K μ H v d) (h : seqOf S d = some ds) : ∃ a vs, v = .ref a ∧ (SqL K H a vs ∨ SqN K H a vs) ∧ RVs K μ H vs ds := by
  cases r with
  | tup hq rs => obtain rfl := Option.some.inj h; exact ⟨_, _, rfl, .inr hq, rs⟩
  | fz hq rs => obtain rfl := Option.some.inj h; exact ⟨_, _, rfl, .inl hq.sq, rs⟩
  | lst hl =>
    unfold seqOf at h
    dsimp only at h
    split at h
    · rename_i ds' hS
      obtain rfl := Option.some.inj h
      obtain ⟨a', h1, vs, h2, h3⟩ := R.ob _ _ hS
      rw [hl] at h1
      obtain rfl := Option.some.inj h1
      exact ⟨_, vs, rfl, .inl (.inl (.inl h2)), h3⟩
    · cases h
  | _ => cases h
theorem rv_seq (R : Rel w K μ H S) {v : V} {d : D} {ds : List D} (r : RV K μ H v d) (h : seqOf S d = some ds) : ∃ a vs, v = .ref a ∧ (SqL K H a vs ∨ SqT K H a vs) ∧ RVs K μ H vs ds :=
  let ⟨a, vs, e, q, rs⟩ := rv_seqN R r h; ⟨a, vs, e, q.imp id SqN.sq, rs⟩
theorem rv_list (R : Rel w K μ H S) {v : V} {l : Nat} {ds : List D} (r : RV K μ H v (.lst l)) (h : S[l]? = some (.lst ds)) : ∃ a vs, v = .ref a ∧ μ[l]? = some a ∧ H a = some (.lst vs) ∧ RVs K μ H vs ds := by
  cases r with
  | lst hl =>
    obtain ⟨a', h1, vs, h2, h3⟩ := R.ob _ _ h
    rw [hl] at h1
    obtain rfl := Option.some.inj h1
    exact ⟨_, vs, rfl, hl, h2, h3⟩
theorem rvs_atI {vs : List V} {ds : List D} {i : Int} {d : D} (r : RVs K μ H vs ds) (h : atI ds i = some d) : ∃ v, atI vs i = some v ∧ RV K μ H v d := by
  unfold atI at h ⊢
  rw [r.length]
  cases e : ixN ds.length i with
  | none => rw [e] at h; cases h
  | some j =>
    rw [e] at h
    exact r.get h
end

/-! ### subscripts -/
def idxM : D → D → M D
  | .tup ds, .int i => fun S => (atI ds i).map fun d => (d, S)
  | .fz ds, .int i => fun S => (atI ds i).map fun d => (d, S)
  | .lst l, .int i => fun S => match S[l]? with
    | some (.lst ds) => (atI ds i).map fun d => (d, S)
    | _ => none
  | _, _ => fail
section
variable {X : Cx}
theorem ix_idx : IxR X (lR2 X.w X.K idxM) := by
  intro value slice pins s σ H x y v u Q I rx ry h hs
  obtain ⟨μ, S, d1, d2, d, S', R, r1, r2, e, P⟩ := h
  cases r1 with
  | tup hq rs =>
    cases r2 with
    | int i =>
      obtain ⟨d', e1, e2⟩ := Option.map_eq_some_iff.mp e
      obtain ⟨rfl, rfl⟩ := Prod.mk.inj e2
      obtain ⟨v', e3, r3⟩ := rvs_atI rs e1
      exact ix_tup value slice pins s σ H _ _ v u Q I rx ry ⟨_, _, i, v', rfl, rfl, hq.sq, e3, post_val R r3 P⟩ hs
    | _ => cases e
  | fz hq rs =>
    cases r2 with
    | int i =>
      obtain ⟨d', e1, e2⟩ := Option.map_eq_some_iff.mp e
      obtain ⟨rfl, rfl⟩ := Prod.mk.inj e2
      obtain ⟨v', e3, r3⟩ := rvs_atI rs e1
      exact ix_list value slice pins s σ H _ _ v u Q I rx ry ⟨_, _, i, v', rfl, rfl, hq.sq, e3, post_val R r3 P⟩ hs
    | _ => cases e
  | @lst a l hl =>
    cases r2 with
    | int i =>
      have e' : (match S[l]? with
        | some (.lst ds) => (atI ds i).map fun d => (d, S)
        | _ => none) = some (d, S') := e
      split at e'
      · rename_i ds hS
        obtain ⟨d', e1, e2⟩ := Option.map_eq_some_iff.mp e'
        obtain ⟨rfl, rfl⟩ := Prod.mk.inj e2
        obtain ⟨a', vs, q1, q2, q3, q4⟩ := rv_list R (.lst hl) hS
        cases q1
        obtain ⟨v', e3, r3⟩ := rvs_atI q4 e1
        exact ix_list value slice pins s σ H _ _ v u Q I rx ry ⟨_, _, i, v', rfl, rfl, .inl (.inl q3), e3, post_val R r3 P⟩ hs
      · cases e'
    | _ => cases e
  | _ => cases r2 <;> cases e
theorem e_ix {a b : Expr} {pos : Pos} {g : D → D → M D} {ma mb : EM} (hr : IxR X (lR2 X.w X.K g)) (ha : PE X a (lE X.w X.K ma)) (hb : PE X b (lE X.w X.K mb)) (hs : PlainIx b := by intro _ _; rfl) : PE X (.Subscript a b pos) (lE X.w X.K (m2 g ma mb)) :=
  pe_imp (pe_ix hr ha hb hs) fun _ _ _ h => lE_m2 h
end

/-! ### slices -/
abbrev OM := Env → M (Option Int)
def oNone : OM := fun _ => ret none
def oSome (m : EM) : OM := fun ρ => bnd (m ρ) fun d => match d with
  | .int i => ret (some i)
  | _ => fail
def cutD (ds : List D) (lo hi : Option Int) : List D := (ds.drop (HT.sIx ds.length 0 lo)).take (HT.sIx ds.length ds.length hi - HT.sIx ds.length 0 lo)
def slM (x : D) (lo hi : Option Int) : M D := match x with
  | .tup ds => ret (.tup (cutD ds lo hi))
  | .fz ds => fun S => some (.lst S.length, S ++ [.lst (cutD ds lo hi)])
  | .lst l => fun S => match S[l]? with
    | some (.lst ds) => some (.lst S.length, S ++ [.lst (cutD ds lo hi)])
    | _ => none
  | _ => fail
def mSl (me : EM) (ml mh : OM) : EM := fun ρ => bnd (me ρ) fun x => bnd (ml ρ) fun lo => bnd (mh ρ) fun hi => slM x lo hi
def lO (w : World) (K : PySem.W.Frag) (m : OM) : TO := fun σ H Q => ∃ μ S ρ o S', Rel w K μ H S ∧ RE K μ H σ ρ ∧ m ρ S = some (o, S') ∧ ∀ μ' H', Ext μ H μ' H' → Rel w K μ' H' S' → Q o H'
def lSl (w : World) (K : PySem.W.Frag) : V → Option Int → Option Int → Hp → VK → Prop := fun x lo hi H Q => ∃ μ S d1 d S', Rel w K μ H S ∧ RV K μ H x d1 ∧ slM d1 lo hi S = some (d, S') ∧ Post w K μ H S' d Q
section
variable {X : Cx}
theorem rvs_cut {K : PySem.W.Frag} {μ : List Addr} {H : Hp} {vs : List V} {ds : List D} {lo hi : Option Int} (r : RVs K μ H vs ds) : RVs K μ H (cutV vs lo hi) (cutD ds lo hi) := by
  unfold cutV cutD
  rw [r.length]
  exact (r.drop _).take _
theorem cut_whole {ds : List D} {lo hi : Option Int} (h : HT.sIx ds.length 0 lo = 0 ∧ HT.sIx ds.length ds.length hi = ds.length) : cutD ds lo hi = ds := by
  unfold cutD
  rw [h.1, h.2, List.drop_zero, Nat.sub_zero, List.take_length]
theorem sl_any : SlR X (lSl X.w X.K) := by
  intro pins s σ H x v vl vu lo hi sl Q I rx hs pl pu h
  obtain ⟨μ, S, d1, d, S', R, r1, e, P⟩ := h
  cases r1 with
  | tup hq rs =>
    obtain ⟨rfl, rfl⟩ := Prod.mk.inj (Option.some.inj e)
    refine sl_tupN pins s σ H _ v vl vu lo hi sl Q I rx hs pl pu ⟨_, _, rfl, hq.sq, fun hw => ?_, fun _ p o ho hn => post_new R hn (.tup (.new ho) ((rvs_cut rs).mono (ext_upd hn))) P⟩
    rw [rs.length] at hw
    rw [cut_whole hw] at P
    exact post_val R (.tup hq rs) P
  | fz hq rs =>
    obtain ⟨rfl, rfl⟩ := Prod.mk.inj (Option.some.inj e)
    exact sl_list pins s σ H _ v vl vu lo hi sl Q I rx hs pl pu ⟨_, _, rfl, hq.sq, fun p hn => post_list R hn (rvs_cut rs) P⟩
  | @lst a l hl =>
    have e' : (match S[l]? with
      | some (.lst ds) => some (D.lst S.length, S ++ [.lst (cutD ds lo hi)])
      | _ => none) = some (d, S') := e
    split at e'
    · rename_i ds hS
      obtain ⟨rfl, rfl⟩ := Prod.mk.inj (Option.some.inj e')
      obtain ⟨a', vs, q1, q2, q3, q4⟩ := rv_list R (.lst hl) hS
      cases q1
      exact sl_list pins s σ H _ v vl vu lo hi sl Q I rx hs pl pu ⟨_, _, rfl, .inl (.inl q3), fun p hn => post_list R hn (rvs_cut q4) P⟩
    · cases e'
  | _ => cases e
theorem po_imp {e : Option Expr} {t t' : TO} (h : PO X e t) (hi : ∀ σ H Q, t' σ H Q → t σ H Q) : PO X e t' := ⟨fun pins s σ H Q I q => h.run pins s σ H Q I (hi σ H Q q)⟩
theorem l_none : PO X none (lO X.w X.K oNone) := po_imp po_none fun σ H Q h => by
  obtain ⟨μ, S, ρ, o, S', R, E, e, P⟩ := h
  obtain ⟨rfl, rfl⟩ := Prod.mk.inj (Option.some.inj e)
  exact P μ H Ext.refl R
theorem l_some {e : Expr} {m : EM} (h : PE X e (lE X.w X.K m)) : PO X (some e) (lO X.w X.K (oSome m)) := po_imp (po_some h) fun σ H Q h => by
  obtain ⟨μ, S, ρ, o, S', R, E, e, P⟩ := h
  obtain ⟨d, S1, e1, e2⟩ := bnd_some e
  refine ⟨μ, S, ρ, d, S1, R, E, e1, fun μ1 H1 v x1 R1 r1 => ?_⟩
  cases r1 with
  | int i =>
    obtain ⟨rfl, rfl⟩ := Prod.mk.inj (Option.some.inj e2)
    exact ⟨i, rfl, P μ1 H1 x1 R1⟩
  | _ => cases e2
theorem e_slice {e : Expr} {lo hi : Option Expr} {me : EM} {ml mh : OM} {pos p2 : Pos} (he : PE X e (lE X.w X.K me)) (hl : PO X lo (lO X.w X.K ml)) (hu : PO X hi (lO X.w X.K mh)) : PE X (.Subscript e (.Slice lo hi none p2) pos) (lE X.w X.K (mSl me ml mh)) :=
  pe_imp (pe_slice sl_any he hl hu) fun σ H Q h => by
    obtain ⟨μ, S, ρ, d, S', R, E, e, P⟩ := h
    obtain ⟨x, S1, e1, e2⟩ := bnd_some e
    obtain ⟨l, S2, e3, e4⟩ := bnd_some e2
    obtain ⟨u, S3, e5, e6⟩ := bnd_some e4
    exact ⟨μ, S, ρ, x, S1, R, E, e1, fun μ1 H1 v x1 R1 r1 => ⟨μ1, S1, ρ, l, S2, R1, E.mono x1, e3, fun μ2 H2 x2 R2 => ⟨μ2, S2, ρ, u, S3, R2, E.mono (x1.trans x2), e5, fun μ3 H3 x3 R3 =>
      ⟨μ3, S3, x, d, S', R3, (r1.mono x2).mono x3, e6, P.step (x1.trans (x2.trans x3))⟩⟩⟩⟩
end

/-! ### stores -/
def setM : D → D → D → M Unit
  | .lst l, .int i, d => fun S => match S[l]? with
    | some (.lst ds) => (ixN ds.length i).map fun j => ((), S.set l (.lst (ds.set j d)))
    | _ => none
  | _, _, _ => fail
section
variable {X : Cx}
theorem st_set : PSet X (lSet X.w X.K setM) := by
  intro pins s σ H o i v ov iv u Q I ro ri rv h
  obtain ⟨μ, S, d1, d2, d3, S', R, r1, r2, r3, e, P⟩ := h
  cases r1 with
  | @lst a l hl =>
    cases r2 with
    | int k =>
      have e' : (match S[l]? with
        | some (.lst ds) => (ixN ds.length k).map fun j => ((), S.set l (.lst (ds.set j d3)))
        | _ => none) = some ((), S') := e
      split at e'
      · rename_i ds hS
        obtain ⟨j, e1, e2⟩ := Option.map_eq_some_iff.mp e'
        obtain ⟨_, rfl⟩ := Prod.mk.inj e2
        obtain ⟨a', vs, q1, q2, q3, q4⟩ := rv_list R (.lst hl) hS
        cases q1
        have x := ext_set (μ := μ) (o := .lst (vs.set j v)) (List.mem_of_getElem? q2) q3 trivial
        exact set_list pins s σ H _ _ _ ov iv u Q I ro ri rv ⟨_, vs, k, j, rfl, rfl, q3, by rw [q4.length]; exact e1, P μ _ x (R.set q2 q3 trivial ⟨_, upd_same, (RVs.set r3 j q4).mono x⟩)⟩
      · cases e'
    | _ => cases e
  | _ => cases r2 <;> cases e
end

/-! ### in -/
def hasM (x : D) (ds : List D) (S : Store) : Option Bool := match D.py S 9 x, pyL (D.py S 9) ds with
  | some p, some ps => some (ps.any fun y => PyData.eqv y p)
  | _, _ => none
def inM (x y : D) : M D := fun S => match seqOf S y with
  | some ds => (hasM x ds S).map fun b => (.bl b, S)
  | none => match x, y with
    | .str i, .str j => some (.bl (!(Builtin.Str.occurrences j i 0 j.length 1).isEmpty), S)
    | _, _ => none
def ninM (x y : D) : M D := fun S => match seqOf S y with
  | some ds => (hasM x ds S).map fun b => (.bl (!b), S)
  | none => match x, y with
    | .str i, .str j => some (.bl (!(!(Builtin.Str.occurrences j i 0 j.length 1).isEmpty)), S)
    | _, _ => none
section
variable {X : Cx}
theorem pyL_dp {w : World} {K : PySem.W.Frag} {μ : List Addr} {H : Hp} {S : Store} {n : Nat} (R : Rel w K μ H S) : ∀ {ds : List D} {ps : List PyData} {vs : List V}, pyL (D.py S n) ds = some ps → RVs K μ H vs ds → DpAll K H vs ps ∧ PyData.canLayAll0 ps = true ∧ PyData.depthAll ps ≤ n
  | [], _, _, h, r => by
    obtain rfl := Option.some.inj h
    cases r
    exact ⟨.nil, rfl, Nat.zero_le _⟩
  | d :: ds, ps, _, h, r => by
    unfold pyL at h
    split at h
    · rename_i p q h1 h2
      obtain rfl := Option.some.inj h
      cases r with
      | cons r1 r2 =>
        obtain ⟨a1, a2, a3⟩ := pyL_dp R h2 r2
        obtain ⟨b1, b2⟩ := py_lay h1
        refine ⟨.cons (py_dp R h1 r1) a1, ?_, ?_⟩
        · rw [PyData.canLayAll0, b1, a2]; rfl
        · rw [PyData.depthAll]; exact Nat.max_le.mpr ⟨b2, a3⟩
    · cases h
theorem has_in (G : Good X) {pins : List (Addr × Obj)} {s : Shared} {σ : L2.St} {H : Hp} {x y : V} {v u : Value} {μ : List Addr} {S : Store} {d1 d2 : D} {ds : List D} {b : Bool} (I : Inv X pins σ H s) (rx : RelV x v) (ry : RelV y u) (R : Rel X.w X.K μ H S)
    (r1 : RV X.K μ H x d1) (r2 : RV X.K μ H y d2) (hq : seqOf S d2 = some ds) (hb : hasM d1 ds S = some b) {E : Value → Shared → Prop} :
    (∀ Q : Value → Shared → Prop, Q (.bool b) s → wpAny (model X.prog X.w) X.A (compareOp .In v u) Q E s) ∧ (∀ Q : Value → Shared → Prop, Q (.bool (!b)) s → wpAny (model X.prog X.w) X.A (compareOp .NotIn v u) Q E s) := by
  unfold hasM at hb
  split at hb
  · rename_i p ps e1 e2
    obtain rfl := Option.some.inj hb
    obtain ⟨a, vs, rfl, hs, rs⟩ := rv_seq R r2 hq
    obtain ⟨dp, la, de⟩ := pyL_dp R e2 rs
    obtain ⟨lp, dpp⟩ := py_lay e1
    obtain ⟨as, rd⟩ := Dp.reads I p x v (py_dp R e1 r1) rx
    have room : X.A.units + 1 + min (PyData.depthAll ps) p.depth < cLine := by
      have := Nat.min_le_right (PyData.depthAll ps) p.depth
      have := G.un
      omega
    rcases hs with hs | hs
    · obtain ⟨bs, rl⟩ := Dp.reads I (.list ps) (.ref a) u (.lst hs dp) ry
      exact ⟨fun Q q => SeqAt.in_list_reads rl rd la lp room q, fun Q q => SeqAt.notIn_list_reads rl rd la lp room q⟩
    · obtain ⟨bs, rl⟩ := Dp.reads I (.tuple ps) (.ref a) u (.tup hs dp) ry
      exact ⟨fun Q q => SeqAt.in_tuple_reads rl rd la lp room q, fun Q q => SeqAt.notIn_tuple_reads rl rd la lp room q⟩
  · cases hb
theorem o_inS (G : Good X) : OpR X (compareOp .In) (lR2 X.w X.K inM) := by
  intro pins s σ H x y v u Q I rx ry h
  obtain ⟨μ, S, d1, d2, d, S', R, r1, r2, e, P⟩ := h
  unfold inM at e
  split at e
  · rename_i ds hq
    obtain ⟨b, e1, e2⟩ := Option.map_eq_some_iff.mp e
    obtain ⟨rfl, rfl⟩ := Prod.mk.inj e2
    exact (has_in G I rx ry R r1 r2 hq e1).1 _ ⟨.bl b, H, I, rfl, post_val R (.bl _) P⟩
  · split at e
    · obtain ⟨rfl, rfl⟩ := Prod.mk.inj (Option.some.inj e)
      cases r1
      cases r2
      exact op_in_str pins s σ H _ _ v u Q I rx ry ⟨_, _, rfl, rfl, post_val R (.bl _) P⟩
    · cases e
theorem o_ninS (G : Good X) : OpR X (compareOp .NotIn) (lR2 X.w X.K ninM) := by
  intro pins s σ H x y v u Q I rx ry h
  obtain ⟨μ, S, d1, d2, d, S', R, r1, r2, e, P⟩ := h
  unfold ninM at e
  split at e
  · rename_i ds hq
    obtain ⟨b, e1, e2⟩ := Option.map_eq_some_iff.mp e
    obtain ⟨rfl, rfl⟩ := Prod.mk.inj e2
    exact (has_in G I rx ry R r1 r2 hq e1).2 _ ⟨.bl (!b), H, I, rfl, post_val R (.bl _) P⟩
  · split at e
    · obtain ⟨rfl, rfl⟩ := Prod.mk.inj (Option.some.inj e)
      cases r1
      cases r2
      exact L2.op_notin_str pins s σ H _ _ v u Q I rx ry ⟨_, _, rfl, rfl, post_val R (.bl _) P⟩
    · cases e
end

/-! ### built-in functions -/
def fLen : List D → M D
  | [d] => fun S => match seqOf S d with
    | some ds => some (.int ds.length, S)
    | none => match d with
      | .str x => if x.length ≤ lim then some (.int x.length, S) else none
      | _ => none
  | _ => fail
def fList : List D → M D
  | [d] => fun S => (seqOf S d).map fun ds => (.lst S.length, S ++ [.lst ds])
  | _ => fail
def fTuple : List D → M D
  | [.tup ds] => ret (.tup ds)
  | [d] => fun S => (seqOf S d).map fun ds => (.tup ds, S)
  | _ => fail
def fInt : List D → M D
  | [.int i] => ret (.int i)
  | [.bl k] => ret (.int (if k then 1 else 0))
  | _ => fail
def fAbs : List D → M D
  | [.int i] => ret (.int (if i < 0 then -i else i))
  | _ => fail
def intsOf : List D → Option (List Int)
  | [] => some []
  | .int i :: r => (intsOf r).map (i :: ·)
  | _ => none
def blsOf : List D → Option (List Bool)
  | [] => some []
  | .bl b :: r => (blsOf r).map (b :: ·)
  | _ => none
def fSum : List D → M D
  | [.lst l] => fun S => match S[l]? with
    | some (.lst ds) => (intsOf ds).map fun ns => (.int ns.sum, S)
    | _ => none
  | _ => fail
def leastI : List Int → Option Int
  | [] => none
  | n :: r => some (r.foldl min n)
def mostI : List Int → Option Int
  | [] => none
  | n :: r => some (r.foldl max n)
def fMin : List D → M D
  | [.lst l] => fun S => match S[l]? with
    | some (.lst ds) => ((intsOf ds).bind leastI).map fun n => (.int n, S)
    | _ => none
  | [.int i, .int j] => ret (.int (if j < i then j else i))
  | _ => fail
def fMax : List D → M D
  | [.lst l] => fun S => match S[l]? with
    | some (.lst ds) => ((intsOf ds).bind mostI).map fun n => (.int n, S)
    | _ => none
  | [.int i, .int j] => ret (.int (if j > i then j else i))
  | _ => fail
def fAll : List D → M D
  | [.lst l] => fun S => match S[l]? with
    | some (.lst ds) => (blsOf ds).map fun bs => (.bl (bs.all id), S)
    | _ => none
  | _ => fail
def fAny : List D → M D
  | [.lst l] => fun S => match S[l]? with
    | some (.lst ds) => (blsOf ds).map fun bs => (.bl (bs.any id), S)
    | _ => none
  | _ => fail
section
variable {w : World} {K : PySem.W.Frag} {μ : List Addr} {H : Hp}
theorem ints_of : ∀ {vs : List V} {ds : List D} {ns : List Int}, RVs K μ H vs ds → intsOf ds = some ns → vs = ns.map V.int
  | _, _, _, .nil, h => by obtain rfl := Option.some.inj h; rfl
  | _, d :: ds, ns, .cons r rs, h => by
    cases r with
    | int i =>
      unfold intsOf at h
      obtain ⟨m, e1, rfl⟩ := Option.map_eq_some_iff.mp h
      rw [ints_of rs e1]
      rfl
    | _ => cases h
theorem bls_of : ∀ {vs : List V} {ds : List D} {ns : List Bool}, RVs K μ H vs ds → blsOf ds = some ns → vs = ns.map V.bl
  | _, _, _, .nil, h => by obtain rfl := Option.some.inj h; rfl
  | _, d :: ds, ns, .cons r rs, h => by
    cases r with
    | bl i =>
      unfold blsOf at h
      obtain ⟨m, e1, rfl⟩ := Option.map_eq_some_iff.mp h
      rw [bls_of rs e1]
      rfl
    | _ => cases h
theorem foldl_min (r : List Int) : ∀ n : Int, (r.foldl min n = n ∨ r.foldl min n ∈ r) ∧ r.foldl min n ≤ n ∧ ∀ y ∈ r, r.foldl min n ≤ y := by
  induction r with
  | nil => intro n; exact ⟨.inl rfl, Int.le_refl _, fun y h => by cases h⟩
  | cons x r ih =>
    intro n
    rw [List.foldl_cons]
    obtain ⟨h1, h2, h3⟩ := ih (min n x)
    refine ⟨?_, by omega, fun y hy => ?_⟩
    · rcases h1 with h1 | h1
      · rw [h1]
        by_cases q : n ≤ x
        · left; omega
        · right; rw [show min n x = x by omega]; exact List.mem_cons_self
      · right; exact List.mem_cons_of_mem _ h1
    · rcases List.mem_cons.mp hy with rfl | hy
      · omega
      · exact h3 y hy
theorem foldl_max (r : List Int) : ∀ n : Int, (r.foldl max n = n ∨ r.foldl max n ∈ r) ∧ n ≤ r.foldl max n ∧ ∀ y ∈ r, y ≤ r.foldl max n := by
  induction r with
  | nil => intro n; exact ⟨.inl rfl, Int.le_refl _, fun y h => by cases h⟩
  | cons x r ih =>
    intro n
    rw [List.foldl_cons]
    obtain ⟨h1, h2, h3⟩ := ih (max n x)
    refine ⟨?_, by omega, fun y hy => ?_⟩
    · rcases h1 with h1 | h1
      · rw [h1]
        by_cases q : x ≤ n
        · left; omega
        · right; rw [show max n x = x by omega]; exact List.mem_cons_self
      · right; exact List.mem_cons_of_mem _ h1
    · rcases List.mem_cons.mp hy with rfl | hy
      · omega
      · exact h3 y hy
theorem leastI_is {ns : List Int} {m : Int} (h : leastI ns = some m) : m ∈ ns ∧ (∀ y ∈ ns, m ≤ y) ∧ 0 < ns.length := by
  cases ns with
  | nil => cases h
  | cons n r =>
    obtain rfl := Option.some.inj h
    obtain ⟨h1, h2, h3⟩ := foldl_min r n
    refine ⟨?_, fun y hy => ?_, Nat.zero_lt_succ _⟩
    · rcases h1 with h1 | h1
      · rw [h1]; exact List.mem_cons_self
      · exact List.mem_cons_of_mem _ h1
    · rcases List.mem_cons.mp hy with rfl | hy
      · exact h2
      · exact h3 y hy
theorem mostI_is {ns : List Int} {m : Int} (h : mostI ns = some m) : m ∈ ns ∧ (∀ y ∈ ns, y ≤ m) ∧ 0 < ns.length := by
  cases ns with
  | nil => cases h
  | cons n r =>
    obtain rfl := Option.some.inj h
    obtain ⟨h1, h2, h3⟩ := foldl_max r n
    refine ⟨?_, fun y hy => ?_, Nat.zero_lt_succ _⟩
    · rcases h1 with h1 | h1
      · rw [h1]; exact List.mem_cons_self
      · exact List.mem_cons_of_mem _ h1
    · rcases List.mem_cons.mp hy with rfl | hy
      · exact h2
      · exact h3 y hy
theorem rvs1 {xs : List V} {d : D} (r : RVs K μ H xs [d]) : ∃ v, xs = [v] ∧ RV K μ H v d := by
  cases r with
  | cons r1 r2 => cases r2; exact ⟨_, rfl, r1⟩
theorem rvs2 {xs : List V} {d e : D} (r : RVs K μ H xs [d, e]) : ∃ v u, xs = [v, u] ∧ RV K μ H v d ∧ RV K μ H u e := by
  cases r with
  | cons r1 r2 =>
    obtain ⟨u, rfl, r3⟩ := rvs1 r2
    exact ⟨_, u, rfl, r1, r3⟩
end
section
variable {X : Cx}
theorem c_len : CallR X (.builtin "len") (lRs X.w X.K fLen) := by
  intro pins s σ H xs us Q I r h
  obtain ⟨μ, S, ds, d, S', R, rs, e, P⟩ := h
  unfold fLen at e
  split at e
  · rename_i d0
    obtain ⟨v, rfl, rv⟩ := rvs1 rs
    (try dsimp only at e)
    split at e
    · rename_i ds0 hq
      obtain ⟨rfl, rfl⟩ := Prod.mk.inj (Option.some.inj e)
      obtain ⟨a, vs, rfl, hs, rr⟩ := rv_seq R rv hq
      exact call_len_seq pins s σ H _ us Q I r ⟨a, vs, rfl, hs, by rw [rr.length]; exact post_val R (.int _) P⟩
    · split at e
      · rename_i x hx
        split at e
        · rename_i hl
          obtain ⟨rfl, rfl⟩ := Prod.mk.inj (Option.some.inj e)
          cases rv
          exact call_len_str pins s σ H _ us Q I r ⟨_, rfl, Nat.le_trans hl lim_le, post_val R (.int _) P⟩
        · cases e
      · cases e
  · cases e
theorem c_list : CallR X (.type "list") (lRs X.w X.K fList) := by
  intro pins s σ H xs us Q I r h
  obtain ⟨μ, S, ds, d, S', R, rs, e, P⟩ := h
  unfold fList at e
  split at e
  · rename_i d0
    obtain ⟨v, rfl, rv⟩ := rvs1 rs
    obtain ⟨ds0, hq, e2⟩ := Option.map_eq_some_iff.mp e
    obtain ⟨rfl, rfl⟩ := Prod.mk.inj e2
    obtain ⟨a, vs, rfl, hs, rr⟩ := rv_seq R rv hq
    exact call_list_of pins s σ H _ us Q I r ⟨a, vs, rfl, hs, fun p hn => post_list R hn rr P⟩
  · cases e
theorem c_tuple : CallR X (.type "tuple") (lRs X.w X.K fTuple) := by
  intro pins s σ H xs us Q I r h
  obtain ⟨μ, S, ds, d, S', R, rs, e, P⟩ := h
  unfold fTuple at e
  split at e
  · obtain ⟨v, rfl, rv⟩ := rvs1 rs
    obtain ⟨rfl, rfl⟩ := Prod.mk.inj (Option.some.inj e)
    cases rv with
    | tup hq rr => exact call_tupleN pins s σ H _ us Q I r ⟨_, _, rfl, .inr ⟨hq.sq, post_val R (.tup hq rr) P⟩⟩
  · rename_i d0 hnt
    obtain ⟨v, rfl, rv⟩ := rvs1 rs
    obtain ⟨ds0, hq, e2⟩ := Option.map_eq_some_iff.mp e
    obtain ⟨rfl, rfl⟩ := Prod.mk.inj e2
    obtain ⟨a, vs, rfl, hs, rr⟩ := rv_seqN R rv hq
    rcases hs with hs | hs
    · exact call_tupleN pins s σ H _ us Q I r ⟨a, vs, rfl, .inl ⟨hs, fun p o ho hn => post_new R hn (.tup (.new ho) (rr.mono (ext_upd hn))) P⟩⟩
    · exact call_tupleN pins s σ H _ us Q I r ⟨a, vs, rfl, .inr ⟨hs.sq, post_val R (.tup hs rr) P⟩⟩
  · cases e
theorem c_int : CallR X (.type "int") (lRs X.w X.K fInt) := by
  intro pins s σ H xs us Q I r h
  obtain ⟨μ, S, ds, d, S', R, rs, e, P⟩ := h
  unfold fInt at e
  split at e
  · obtain ⟨v, rfl, rv⟩ := rvs1 rs
    obtain ⟨rfl, rfl⟩ := Prod.mk.inj (Option.some.inj e)
    cases rv
    exact call_int1 pins s σ H _ us Q I r (.inl ⟨_, rfl, post_val R (.int _) P⟩)
  · obtain ⟨v, rfl, rv⟩ := rvs1 rs
    obtain ⟨rfl, rfl⟩ := Prod.mk.inj (Option.some.inj e)
    cases rv
    exact call_int1 pins s σ H _ us Q I r (.inr ⟨_, rfl, post_val R (.int _) P⟩)
  · cases e
theorem c_abs : CallR X (.builtin "abs") (lRs X.w X.K fAbs) := by
  intro pins s σ H xs us Q I r h
  obtain ⟨μ, S, ds, d, S', R, rs, e, P⟩ := h
  unfold fAbs at e
  split at e
  · obtain ⟨v, rfl, rv⟩ := rvs1 rs
    obtain ⟨rfl, rfl⟩ := Prod.mk.inj (Option.some.inj e)
    cases rv
    exact call_abs pins s σ H _ us Q I r ⟨_, rfl, post_val R (.int _) P⟩
  · cases e
theorem c_sum (G : Good X) : CallR X (.builtin "sum") (lRs X.w X.K fSum) := by
  intro pins s σ H xs us Q I r h
  obtain ⟨μ, S, ds, d, S', R, rs, e, P⟩ := h
  unfold fSum at e
  split at e
  · obtain ⟨v, rfl, rv⟩ := rvs1 rs
    (try dsimp only at e)
    split at e
    · rename_i ds0 hS
      obtain ⟨ns, e1, e2⟩ := Option.map_eq_some_iff.mp e
      obtain ⟨rfl, rfl⟩ := Prod.mk.inj e2
      obtain ⟨a, vs, rfl, q2, q3, q4⟩ := rv_list R rv hS
      obtain rfl := ints_of q4 e1
      exact cr_sum G.calm pins s σ H _ us Q I r ⟨a, ns, rfl, .inl (.inl q3), post_val R (.int _) P⟩
    · cases e
  · cases e
theorem c_min (G : Good X) : CallR X (.builtin "min") (lRs X.w X.K fMin) := by
  intro pins s σ H xs us Q I r h
  obtain ⟨μ, S, ds, d, S', R, rs, e, P⟩ := h
  unfold fMin at e
  split at e
  · obtain ⟨v, rfl, rv⟩ := rvs1 rs
    (try dsimp only at e)
    split at e
    · rename_i ds0 hS
      obtain ⟨m, e1, e2⟩ := Option.map_eq_some_iff.mp e
      obtain ⟨ns, e3, e4⟩ := Option.bind_eq_some_iff.mp e1
      obtain ⟨rfl, rfl⟩ := Prod.mk.inj e2
      obtain ⟨a, vs, rfl, q2, q3, q4⟩ := rv_list R rv hS
      obtain rfl := ints_of q4 e3
      obtain ⟨h1, h2, h3⟩ := leastI_is e4
      refine cr_min G.calm pins s σ H _ us Q I r ⟨a, ns, rfl, .inl (.inl q3), h3, fun m' hm hle => ?_⟩
      obtain rfl : m' = m := Int.le_antisymm (hle m h1) (h2 m' hm)
      exact post_val R (.int _) P
    · cases e
  · obtain ⟨v, u, rfl, rv, ru⟩ := rvs2 rs
    obtain ⟨rfl, rfl⟩ := Prod.mk.inj (Option.some.inj e)
    cases rv
    cases ru
    exact call_min2 G.calm pins s σ H _ us Q I r ⟨_, _, rfl, post_val R (.int _) P⟩
  · cases e
theorem c_max (G : Good X) : CallR X (.builtin "max") (lRs X.w X.K fMax) := by
  intro pins s σ H xs us Q I r h
  obtain ⟨μ, S, ds, d, S', R, rs, e, P⟩ := h
  unfold fMax at e
  split at e
  · obtain ⟨v, rfl, rv⟩ := rvs1 rs
    (try dsimp only at e)
    split at e
    · rename_i ds0 hS
      obtain ⟨m, e1, e2⟩ := Option.map_eq_some_iff.mp e
      obtain ⟨ns, e3, e4⟩ := Option.bind_eq_some_iff.mp e1
      obtain ⟨rfl, rfl⟩ := Prod.mk.inj e2
      obtain ⟨a, vs, rfl, q2, q3, q4⟩ := rv_list R rv hS
      obtain rfl := ints_of q4 e3
      obtain ⟨h1, h2, h3⟩ := mostI_is e4
      refine cr_max G.calm pins s σ H _ us Q I r ⟨a, ns, rfl, .inl (.inl q3), h3, fun m' hm hle => ?_⟩
      obtain rfl : m' = m := Int.le_antisymm (h2 m' hm) (hle m h1)
      exact post_val R (.int _) P
    · cases e
  · obtain ⟨v, u, rfl, rv, ru⟩ := rvs2 rs
    obtain ⟨rfl, rfl⟩ := Prod.mk.inj (Option.some.inj e)
    cases rv
    cases ru
    exact call_max2 G.calm pins s σ H _ us Q I r ⟨_, _, rfl, post_val R (.int _) P⟩
  · cases e
theorem c_all (G : Good X) : CallR X (.builtin "all") (lRs X.w X.K fAll) := by
  intro pins s σ H xs us Q I r h
  obtain ⟨μ, S, ds, d, S', R, rs, e, P⟩ := h
  unfold fAll at e
  split at e
  · obtain ⟨v, rfl, rv⟩ := rvs1 rs
    (try dsimp only at e)
    split at e
    · rename_i ds0 hS
      obtain ⟨ns, e1, e2⟩ := Option.map_eq_some_iff.mp e
      obtain ⟨rfl, rfl⟩ := Prod.mk.inj e2
      obtain ⟨a, vs, rfl, q2, q3, q4⟩ := rv_list R rv hS
      obtain rfl := bls_of q4 e1
      exact cr_all G.calm pins s σ H _ us Q I r ⟨a, ns, rfl, .inl (.inl q3), post_val R (.bl _) P⟩
    · cases e
  · cases e
theorem c_any (G : Good X) : CallR X (.builtin "any") (lRs X.w X.K fAny) := by
  intro pins s σ H xs us Q I r h
  obtain ⟨μ, S, ds, d, S', R, rs, e, P⟩ := h
  unfold fAny at e
  split at e
  · obtain ⟨v, rfl, rv⟩ := rvs1 rs
    (try dsimp only at e)
    split at e
    · rename_i ds0 hS
      obtain ⟨ns, e1, e2⟩ := Option.map_eq_some_iff.mp e
      obtain ⟨rfl, rfl⟩ := Prod.mk.inj e2
      obtain ⟨a, vs, rfl, q2, q3, q4⟩ := rv_list R rv hS
      obtain rfl := bls_of q4 e1
      exact cr_any G.calm pins s σ H _ us Q I r ⟨a, ns, rfl, .inl (.inl q3), post_val R (.bl _) P⟩
    · cases e
  · cases e
/-- f(..), f a built-in function or type -/
theorem e_fn {x : Str} {id : String} {f : List D → M D} {p pos : Pos} {e : Expr} {es : List Expr} {ma : AM} (hc : CallR X (.builtin id) (lRs X.w X.K f)) (hm : X.mg x = none) (ha : PA X (e :: es) (lA X.w X.K ma)) (hg : Gl X x := by rfl) (hv : bootBuiltins x = some (.builtin id) := by decide +kernel) (hn : x ≠ "__name__" := by decide)
    (hdb : (x == ("__debug__" : Str)) = false := by decide) (he : starEach (e :: es) X.env = (false, eval e X.env) :: starEach es X.env := by rfl) (hpl : (backTo pos (starEach es X.env)).any (·.1) = false := by rfl) : PE X (.Call (.Name x p) (e :: es) [] pos) (lE X.w X.K (mFn f ma)) :=
  pe_imp (pe_callB hc hg hm hv ha hn hdb he hpl) fun _ _ _ h => lE_fn h
theorem e_ty {x : Str} {id : String} {f : List D → M D} {p pos : Pos} {e : Expr} {es : List Expr} {ma : AM} (hc : CallR X (.type id) (lRs X.w X.K f)) (hm : X.mg x = none) (ha : PA X (e :: es) (lA X.w X.K ma)) (hg : Gl X x := by rfl) (hv : bootBuiltins x = some (.type id) := by decide +kernel) (hn : x ≠ "__name__" := by decide)
    (hdb : (x == ("__debug__" : Str)) = false := by decide) (he : starEach (e :: es) X.env = (false, eval e X.env) :: starEach es X.env := by rfl) (hpl : (backTo pos (starEach es X.env)).any (·.1) = false := by rfl) : PE X (.Call (.Name x p) (e :: es) [] pos) (lE X.w X.K (mFn f ma)) :=
  pe_imp (pe_callTy hc hg hm hv ha hn hdb he hpl) fun _ _ _ h => lE_fn h
end
end VM

/-! VM7: dicts -/
namespace VM
open PySem PySem.Spec PyProof.Rows L2

/-! ### keys carried by value, no bools among them -/
def nb : Value → Bool
  | .bool _ => false
  | _ => true
def plainK (P : Program) (w : World) : PySem.KeyKind P w Leaf where
  is k v := (leafKind P w).is k v && nb v
  hash := (leafKind P w).hash
  inj v a b ha hb := (leafKind P w).inj v a b (Bool.and_eq_true_iff.mp ha).1 (Bool.and_eq_true_iff.mp hb).1
  byValue k v h := (leafKind P w).byValue k v (Bool.and_eq_true_iff.mp h).1
  pyHash hv h := (leafKind P w).pyHash (Bool.and_eq_true_iff.mp hv).1 h
  eqBool hu hv h := (leafKind P w).eqBool (Bool.and_eq_true_iff.mp hu).1 (Bool.and_eq_true_iff.mp hv).1 h
  «strs» k x t v h := by
    have e := (leafKind P w).strs k x t v (Bool.and_eq_true_iff.mp h).1
    cases v with
    | bool b =>
      show ((leafKind P w).is k (.bool b) && false) = _
      rw [Bool.and_false]
      rfl
    | _ =>
      show ((leafKind P w).is k _ && true) = _
      rw [Bool.and_true]
      exact e
def leafOf : NestedKey → Option Leaf
  | .none => some .none
  | .num i => some (.num i)
  | .text x => some (.text x)
  | .tup _ => none
theorem leafOf_key {k : NestedKey} {l : Leaf} (h : leafOf k = some l) : l.key = k := by
  cases k with
  | tup ks => cases h
  | _ => obtain rfl := Option.some.inj h; rfl
theorem leafOf_some {k : NestedKey} (h : leafK k = true) : ∃ l, leafOf k = some l := by
  cases k with
  | tup ks => cases h
  | _ => exact ⟨_, rfl⟩
theorem leaf_leafK (l : Leaf) : leafK l.key = true := by cases l <;> rfl

section
variable {X : Cx} {pins : List (Addr × Obj)} {σ : L2.St} {H : Hp} {s : Shared} {μ : List Addr}
theorem leaf_is {l : Leaf} {v : V} {u : Value} (r : RV X.K μ H v (keyD l.key)) (ru : RelV v u) : (plainK X.prog X.w).is l u = true := by
  cases l with
  | none => cases r; cases ru; rfl
  | num i =>
    cases r
    obtain ⟨t, rfl⟩ := ru
    show ((leafKind X.prog X.w).is (.num i) (.int i t) && true) = true
    rw [Bool.and_true]
    exact decide_eq_true rfl
  | text x =>
    cases r
    obtain ⟨t, rfl⟩ := ru
    show ((leafKind X.prog X.w).is (.text x) (.str x t) && true) = true
    rw [Bool.and_true]
    show Value.isStrOf x (.str x t) = true
    simp [Value.isStrOf]
theorem is_leaf {l : Leaf} {u : Value} (h : (plainK X.prog X.w).is l u = true) : ∃ v, RelV v u ∧ RV X.K μ H v (keyD l.key) := by
  obtain ⟨h1, h2⟩ := Bool.and_eq_true_iff.mp h
  have h1 : Leaf.isOf l u = true := h1
  cases l with
  | none =>
    cases u with
    | none => exact ⟨.non, rfl, .non⟩
    | _ => cases h1
  | num i =>
    cases u with
    | int j t =>
      obtain rfl : j = i := of_decide_eq_true h1
      exact ⟨.int j, ⟨t, rfl⟩, .int j⟩
    | bool b => cases h2
    | _ => cases h1
  | text x =>
    obtain ⟨t, rfl⟩ := Value.isStrOf_shape (show Value.isStrOf x u = true from h1)
    exact ⟨.str x, ⟨t, rfl⟩, .str x⟩
mutual
theorem nested_is (I : Inv X pins σ H s) : ∀ (k : NestedKey) (v : V) (u : Value), RV X.K μ H v (keyD k) → RelV v u → NestedIs s.heap k u
  | .none, _, _, r, ru => by cases r; cases ru; exact .none
  | .num i, _, _, r, ru => by cases r; obtain ⟨t, rfl⟩ := ru; exact .int i t
  | .text x, _, _, r, ru => by cases r; obtain ⟨t, rfl⟩ := ru; exact .text x t
  | .tup ks, v, u, r, ru => by
    have r' : RV X.K μ H v (.tup (keyDs ks)) := r
    cases r' with
    | tup hq rs =>
      cases ru
      obtain ⟨its, rv, ⟨o, ho, hc, n, hd⟩, _⟩ := I.tuple hq.sq
      exact .tup ho hc hd (nested_all I ks _ _ rs rv)
theorem nested_all (I : Inv X pins σ H s) : ∀ (ks : List NestedKey) (vs : List V) (us : List Value), RVs X.K μ H vs (keyDs ks) → Vals vs us → NestedAll s.heap ks us
  | [], vs, us, r, ru => by
    have r' : RVs X.K μ H vs [] := r
    cases r'
    cases ru
    exact .nil
  | k :: ks, vs, us, r, ru => by
    have r' : RVs X.K μ H vs (keyD k :: keyDs ks) := r
    cases r' with
    | cons r1 r2 =>
      cases ru with
      | cons q1 q2 => exact .cons (nested_is I k _ _ r1 q1) (nested_all I ks _ _ r2 q2)
end
theorem rv_ref {k : NestedKey} {v : V} (h : leafK k = false) (r : RV X.K μ H v (keyD k)) : ∃ b, v = .ref b := by
  cases k with
  | tup ks =>
    have r' : RV X.K μ H v (.tup (keyDs ks)) := r
    cases r' with
    | tup hq rs => exact ⟨_, rfl⟩
  | _ => cases h
end

/-! ### the two sorts of dicts -/
abbrev LP (K : PySem.W.Frag) (μ : List Addr) (H : Hp) (p : Leaf × Value) (kv : NestedKey × D) : Prop := p.1.key = kv.1 ∧ ∃ v, RelV v p.2 ∧ RV K μ H v kv.2
abbrev TPr (K : PySem.W.Frag) (μ : List Addr) (H : Hp) (x : NestedKey × Addr × Value) (kv : NestedKey × D) : Prop := x.1 = kv.1 ∧ RV K μ H (.ref x.2.1) (keyD kv.1) ∧ ∃ v, RelV v x.2.2 ∧ RV K μ H v kv.2
section
variable {X : Cx} {pins : List (Addr × Obj)} {σ : L2.St} {H : Hp} {s : Shared} {μ : List Addr}
theorem ents_leaf {ents : List DictEntry} {kvs : List (NestedKey × D)} (h : Paired (EntOk X.w X.K μ H) ents kvs) (hl : ∀ kv ∈ kvs, leafK kv.1 = true) :
    ∃ lk : List (Leaf × Value), PySem.Pairs (plainK X.prog X.w) ents lk ∧ (∀ e ∈ ents, ∃ k, (plainK X.prog X.w).is k e.key = true ∧ e.hash = (plainK X.prog X.w).hash k) ∧ Paired (LP X.K μ H) lk kvs := by
  induction h with
  | nil => exact ⟨[], .nil, (fun e he => by cases he), .nil⟩
  | @cons e kv es r h1 _ ih =>
    obtain ⟨lk, p1, p2, p3⟩ := ih fun q hq => hl q (List.mem_cons_of_mem _ hq)
    obtain ⟨hh, ⟨v, hv, rv⟩, u, hu, ru⟩ := h1
    obtain ⟨l, el⟩ := leafOf_some (hl kv List.mem_cons_self)
    have ek := leafOf_key el
    have is : (plainK X.prog X.w).is l e.key = true := leaf_is (μ := μ) (H := H) (by rw [ek]; exact rv) hv
    refine ⟨(l, e.val) :: lk, .cons is rfl p1, fun q hq => ?_, .cons ⟨ek, u, hu, ru⟩ p3⟩
    rcases List.mem_cons.mp hq with rfl | hq
    · refine ⟨l, is, ?_⟩
      rw [hh, ← ek]
      rfl
    · exact p2 q hq
theorem ents_tup (I : Inv X pins σ H s) {ents : List DictEntry} {kvs : List (NestedKey × D)} (h : Paired (EntOk X.w X.K μ H) ents kvs) (hl : ∀ kv ∈ kvs, leafK kv.1 = false) (hd : ∀ kv ∈ kvs, kv.1.depth ≤ 8) :
    ∃ xs : List (NestedKey × Addr × Value), ents = xs.map (entryOfKey (nestedKind X.prog X.w)) ∧ (∀ x ∈ xs, (nestedKind X.prog X.w).is s.heap x.1 x.2.1) ∧ Paired (TPr X.K μ H) xs kvs := by
  induction h with
  | nil => exact ⟨[], rfl, (fun e he => by cases he), .nil⟩
  | @cons e kv es r h1 _ ih =>
    obtain ⟨xs, p1, p2, p3⟩ := ih (fun q hq => hl q (List.mem_cons_of_mem _ hq)) fun q hq => hd q (List.mem_cons_of_mem _ hq)
    obtain ⟨hh, ⟨v, hv, rv⟩, u, hu, ru⟩ := h1
    obtain ⟨b, rfl⟩ := rv_ref (hl kv List.mem_cons_self) rv
    have ek : e.key = .ref b := hv
    refine ⟨(kv.1, b, e.val) :: xs, ?_, fun q hq => ?_, .cons ⟨rfl, rv, u, hu, ru⟩ p3⟩
    · rw [List.map_cons, ← p1]
      congr 1
      obtain ⟨e1, e2, e3⟩ := e
      show DictEntry.mk _ _ _ = DictEntry.mk _ _ _
      congr 1
    · rcases List.mem_cons.mp hq with rfl | hq
      · exact ⟨nested_is I _ _ _ rv rfl, hd kv List.mem_cons_self⟩
      · exact p2 q hq
theorem nodup_map {α β : Type} (f : α → β) : ∀ {l : List α}, (l.map f).Nodup → l.Nodup
  | [], _ => List.nodup_nil
  | x :: l, h => by
    rw [List.map_cons, List.nodup_cons] at h
    exact List.nodup_cons.mpr ⟨fun hm => h.1 (List.mem_map.mpr ⟨x, hm, rfl⟩), nodup_map f h.2⟩
theorem nodup_leaf {lk : List (Leaf × Value)} {kvs : List (NestedKey × D)} (h : Paired (LP X.K μ H) lk kvs) (nd : (kvs.map (·.1)).Nodup) : (lk.map (·.1)).Nodup := by
  have e : (lk.map (·.1)).map Leaf.key = kvs.map (·.1) := by
    induction h with
    | nil => rfl
    | cons h1 _ ih =>
      rw [List.map_cons, List.map_cons, List.map_cons, h1.1, ih (List.nodup_cons.mp nd).2]
  exact nodup_map Leaf.key (by rw [e]; exact nd)
theorem keys_tup {xs : List (NestedKey × Addr × Value)} {kvs : List (NestedKey × D)} (h : Paired (TPr X.K μ H) xs kvs) : xs.map (·.1) = kvs.map (·.1) := by
  induction h with
  | nil => rfl
  | cons h1 _ ih => rw [List.map_cons, List.map_cons, h1.1, ih]
/-- the dict's object, as one of the two sorts -/
theorem dview (I : Inv X pins σ H s) {a : Addr} {kvs : List (NestedKey × D)} (h : ROR X.w X.K μ H a kvs) :
    (a == sysModules) = false ∧ kvs.length ≤ sizeLine ∧ (((∀ kv ∈ kvs, leafK kv.1 = true) ∧ ∃ lk, s.heap.DictOf (plainK X.prog X.w) a lk ∧ Paired (LP X.K μ H) lk kvs) ∨ ((∀ kv ∈ kvs, leafK kv.1 = false) ∧ ∃ xs, s.heap.DictOfH (nestedKind X.prog X.w) a xs ∧ Paired (TPr X.K μ H) xs kvs)) := by
  obtain ⟨h1, h2, h3, h4, h5, ents, h6, h7⟩ := h
  refine ⟨h1, h2, ?_⟩
  obtain ⟨o, es, ep, q1, q2, q3, q4⟩ : (dφ a ents) s.heap := by
    rcases h6 with h6 | ⟨od, h6⟩
    · exact (show (dφ a ents) s.heap ∧ _ from I.hok a _ h6).1
    · exact (show s.heap.get? a = some od ∧ (dφ a ents) s.heap ∧ _ from I.hok a _ h6).2.1
  rcases h4 with h4 | h4
  · obtain ⟨lk, p1, p2, p3⟩ := ents_leaf h7 h4
    exact .inl ⟨h4, lk, ⟨o, es, ep, q1, q2, q3, fun e he => p2 e (by rw [← q4]; exact Array.mem_toList_iff.mpr he), by rw [q4]; exact p1, nodup_leaf p3 h3⟩, p3⟩
  · obtain ⟨xs, p1, p2, p3⟩ := ents_tup I h7 h4 h5
    exact .inr ⟨h4, xs, ⟨o, es, ep, q1, q2, q3, by rw [q4]; exact p1, p2, by rw [keys_tup p3]; exact h3⟩, p3⟩
/-- back -/
theorem dback_leaf {h' : Heap} {a : Addr} {lk : List (Leaf × Value)} {kvs : List (NestedKey × D)} (hd : h'.DictOf (plainK X.prog X.w) a lk) (p : Paired (LP X.K μ H) lk kvs) : ∃ ents, dφ a ents h' ∧ Paired (EntOk X.w X.K μ H) ents kvs := by
  obtain ⟨o, es, ep, q1, q2, q3, q4, q5, q6⟩ := hd
  refine ⟨es.toList, ⟨o, es, ep, q1, q2, q3, rfl⟩, ?_⟩
  have hk : ∀ e ∈ es.toList, ∃ k, (plainK X.prog X.w).is k e.key = true ∧ e.hash = (plainK X.prog X.w).hash k := fun e he => q4 e (Array.mem_toList_iff.mp he)
  clear q1 q2 q3 q4 q6
  generalize es.toList = l at q5 hk
  induction q5 generalizing kvs with
  | nil => cases p; exact .nil
  | @cons e kv es' r is ev _ ih =>
    cases p with
    | @cons _ kv2 _ _ h1 h2 =>
      refine .cons ?_ (ih h2 fun q hq => hk q (List.mem_cons_of_mem _ hq))
      obtain ⟨k, i1, i2⟩ := hk e List.mem_cons_self
      have ek : k = kv.1 := (plainK X.prog X.w).inj _ _ _ i1 is
      obtain ⟨e1, u, hu, ru⟩ := h1
      refine ⟨?_, ?_, u, by rw [ev]; exact hu, ru⟩
      · rw [i2, ek, ← e1]
        rfl
      · rw [← e1]
        exact is_leaf is
theorem dback_tup {h' : Heap} {a : Addr} {xs : List (NestedKey × Addr × Value)} {kvs : List (NestedKey × D)} (hd : h'.DictOfH (nestedKind X.prog X.w) a xs) (p : Paired (TPr X.K μ H) xs kvs) : ∃ ents, dφ a ents h' ∧ Paired (EntOk X.w X.K μ H) ents kvs := by
  obtain ⟨o, es, ep, q1, q2, q3, q4, q5, q6⟩ := hd
  refine ⟨es.toList, ⟨o, es, ep, q1, q2, q3, rfl⟩, ?_⟩
  rw [q4]
  clear q4 q5 q6
  induction p with
  | nil => exact .nil
  | @cons x kv xs' kvs' h1 _ ih =>
    obtain ⟨e1, rk, u, hu, ru⟩ := h1
    refine .cons ⟨?_, ⟨.ref x.2.1, rfl, rk⟩, u, hu, ru⟩ ih
    show (nestedKind X.prog X.w).hash x.1 = _
    rw [e1]
    rfl
theorem dφ_mono (a : Addr) (ents : List DictEntry) : ∀ h1 h2 : Heap, dφ a ents h1 → (∀ o, h1.get? a = some o → h2.get? a = some o) → dφ a ents h2 := fun h1 h2 ⟨o, es, ep, q1, q2, q3, q4⟩ k => ⟨o, es, ep, k o q1, q2, q3, q4⟩
theorem dφ_obj {P : Program} {w : World} {H' : Hp} {h' : Heap} {a : Addr} {ents : List DictEntry} (h : dφ a ents h') : ObjOk P w H' h' a (.ext (dφ a ents)) :=
  ⟨h, let ⟨o, _, _, q1, _⟩ := h; ⟨o, q1⟩, dφ_mono a ents⟩
end

/-! ### the machine's dict -/
def dget (kvs : List (NestedKey × D)) (k : NestedKey) : Option D := (kvs.find? fun kv => decide (kv.1 = k)).map (·.2)
def dput (kvs : List (NestedKey × D)) (k : NestedKey) (d : D) : List (NestedKey × D) :=
  if (dget kvs k).isSome then kvs.map (fun kv => if kv.1 = k then (kv.1, d) else kv) else kvs ++ [(k, d)]
def ddrop (kvs : List (NestedKey × D)) (k : NestedKey) : List (NestedKey × D) := kvs.filter fun kv => decide (kv.1 ≠ k)
/-- the key fits to those that are there -/
def fits (kvs : List (NestedKey × D)) (k : NestedKey) : Bool := kvs.all (fun kv => leafK kv.1 == leafK k) && decide (k.depth ≤ 8)
theorem fits_of {kvs : List (NestedKey × D)} {k : NestedKey} (h : fits kvs k = true) : (∀ kv ∈ kvs, leafK kv.1 = leafK k) ∧ k.depth ≤ 8 := by
  obtain ⟨h1, h2⟩ := Bool.and_eq_true_iff.mp h
  exact ⟨fun kv hk => beq_iff_eq.mp (List.all_eq_true.mp h1 kv hk), of_decide_eq_true h2⟩
section
variable {K : PySem.W.Frag} {μ : List Addr} {H : Hp}
theorem dget_leaf {lk : List (Leaf × Value)} {kvs : List (NestedKey × D)} (p : Paired (LP K μ H) lk kvs) (l : Leaf) :
    (dget kvs l.key = none ∧ PySem.valueAt lk l = none) ∨ ∃ d u v, dget kvs l.key = some d ∧ PySem.valueAt lk l = some u ∧ RelV v u ∧ RV K μ H v d := by
  induction p with
  | nil => exact .inl ⟨rfl, rfl⟩
  | @cons x kv xs kvs' h1 _ ih =>
    obtain ⟨e1, v, hv, rv⟩ := h1
    unfold dget PySem.valueAt
    rw [List.find?_cons, List.find?_cons]
    by_cases e : x.1 = l
    · have e2 : kv.1 = l.key := by rw [← e1, e]
      rw [decide_eq_true e, decide_eq_true e2]
      exact .inr ⟨kv.2, x.2, v, rfl, rfl, hv, rv⟩
    · have e2 : ¬ kv.1 = l.key := fun q => e (Leaf.key_inj (e1.trans q))
      rw [decide_eq_false e, decide_eq_false e2]
      exact ih
theorem dget_tup {xs : List (NestedKey × Addr × Value)} {kvs : List (NestedKey × D)} (p : Paired (TPr K μ H) xs kvs) (k : NestedKey) :
    (dget kvs k = none ∧ atKey xs k = none) ∨ ∃ d b u v, dget kvs k = some d ∧ atKey xs k = some (b, u) ∧ RelV v u ∧ RV K μ H v d := by
  induction p with
  | nil => exact .inl ⟨rfl, rfl⟩
  | @cons x kv xs kvs' h1 _ ih =>
    obtain ⟨e1, _, v, hv, rv⟩ := h1
    unfold dget atKey
    rw [List.find?_cons, List.find?_cons]
    by_cases e : x.1 = k
    · have e2 : kv.1 = k := by rw [← e1, e]
      rw [decide_eq_true e, decide_eq_true e2]
      exact .inr ⟨kv.2, x.2.1, x.2.2, v, rfl, rfl, hv, rv⟩
    · have e2 : ¬ kv.1 = k := fun q => e (e1.trans q)
      rw [decide_eq_false e, decide_eq_false e2]
      exact ih
theorem any_leaf {lk : List (Leaf × Value)} {kvs : List (NestedKey × D)} (p : Paired (LP K μ H) lk kvs) (l : Leaf) : lk.any (fun kv => decide (kv.1 = l)) = (dget kvs l.key).isSome := by
  induction p with
  | nil => rfl
  | @cons x kv xs kvs' h1 _ ih =>
    obtain ⟨e1, _⟩ := h1
    unfold dget at ih ⊢
    rw [List.any_cons, List.find?_cons]
    by_cases e : x.1 = l
    · have e2 : kv.1 = l.key := by rw [← e1, e]
      rw [decide_eq_true e, decide_eq_true e2]
      rfl
    · have e2 : ¬ kv.1 = l.key := fun q => e (Leaf.key_inj (e1.trans q))
      rw [decide_eq_false e, decide_eq_false e2, Bool.false_or]
      exact ih
theorem put_leaf {lk : List (Leaf × Value)} {kvs : List (NestedKey × D)} (p : Paired (LP K μ H) lk kvs) (l : Leaf) {v : V} {u : Value} {d : D} (hv : RelV v u) (rv : RV K μ H v d) : Paired (LP K μ H) (PySem.stored lk l u) (dput kvs l.key d) := by
  unfold PySem.stored dput
  rw [← any_leaf p l]
  split
  · rename_i hcond
    clear hcond
    induction p with
    | nil => exact .nil
    | @cons x kv xs kvs' h1 _ ih =>
      rw [List.map_cons, List.map_cons]
      refine .cons ?_ ih
      by_cases e : x.1 = l
      · have e2 : kv.1 = l.key := by rw [← h1.1, e]
        rw [if_pos e, if_pos e2]
        exact ⟨h1.1, v, hv, rv⟩
      · have e2 : ¬ kv.1 = l.key := fun q => e (Leaf.key_inj (h1.1.trans q))
        rw [if_neg e, if_neg e2]
        exact h1
  · exact Paired.snoc p ⟨rfl, v, hv, rv⟩
theorem at_tup {xs : List (NestedKey × Addr × Value)} {kvs : List (NestedKey × D)} (p : Paired (TPr K μ H) xs kvs) (k : NestedKey) : (atKey xs k).isSome = (dget kvs k).isSome := by
  rcases dget_tup p k with ⟨e1, e2⟩ | ⟨d, b, u, v, e1, e2, _⟩ <;> rw [e1, e2] <;> rfl
theorem put_tup {xs : List (NestedKey × Addr × Value)} {kvs : List (NestedKey × D)} (p : Paired (TPr K μ H) xs kvs) (k : NestedKey) {b : Addr} {v : V} {u : Value} {d : D} (rk : RV K μ H (.ref b) (keyD k)) (hv : RelV v u) (rv : RV K μ H v d) : Paired (TPr K μ H) (storedH xs k b u) (dput kvs k d) := by
  unfold storedH dput
  rw [at_tup p k]
  split
  · rename_i hcond
    clear hcond
    induction p with
    | nil => exact .nil
    | @cons x kv xs kvs' h1 _ ih =>
      rw [List.map_cons, List.map_cons]
      refine .cons ?_ ih
      unfold putAt
      by_cases e : x.1 = k
      · have e2 : kv.1 = k := by rw [← h1.1, e]
        rw [if_pos e, if_pos e2]
        exact ⟨h1.1, h1.2.1, v, hv, rv⟩
      · have e2 : ¬ kv.1 = k := fun q => e (h1.1.trans q)
        rw [if_neg e, if_neg e2]
        exact h1
  · exact Paired.snoc p ⟨rfl, rk, v, hv, rv⟩
theorem drop_leaf {lk : List (Leaf × Value)} {kvs : List (NestedKey × D)} (p : Paired (LP K μ H) lk kvs) (l : Leaf) : Paired (LP K μ H) (PySem.without lk l) (ddrop kvs l.key) := by
  unfold PySem.without ddrop
  induction p with
  | nil => exact .nil
  | @cons x kv xs kvs' h1 _ ih =>
    rw [List.filter_cons, List.filter_cons]
    by_cases e : x.1 = l
    · have e2 : kv.1 = l.key := by rw [← h1.1, e]
      rw [if_neg (by simp [e]), if_neg (by simp [e2])]
      exact ih
    · have e2 : ¬ kv.1 = l.key := fun q => e (Leaf.key_inj (h1.1.trans q))
      rw [if_pos (by simp [e]), if_pos (by simp [e2])]
      exact .cons h1 ih
theorem drop_tup {xs : List (NestedKey × Addr × Value)} {kvs : List (NestedKey × D)} (p : Paired (TPr K μ H) xs kvs) (k : NestedKey) : Paired (TPr K μ H) (withoutH xs k) (ddrop kvs k) := by
  unfold withoutH ddrop
  induction p with
  | nil => exact .nil
  | @cons x kv xs kvs' h1 _ ih =>
    rw [List.filter_cons, List.filter_cons]
    by_cases e : x.1 = k
    · have e2 : kv.1 = k := by rw [← h1.1, e]
      rw [if_neg (by simp [e]), if_neg (by simp [e2])]
      exact ih
    · have e2 : ¬ kv.1 = k := fun q => e (h1.1.trans q)
      rw [if_pos (by simp [e]), if_pos (by simp [e2])]
      exact .cons h1 ih
end
theorem dput_mem {kvs : List (NestedKey × D)} {k : NestedKey} {d : D} {q : NestedKey × D} (h : q ∈ dput kvs k d) : q.1 = k ∨ ∃ d', (q.1, d') ∈ kvs := by
  unfold dput at h
  split at h
  · obtain ⟨x, hx, rfl⟩ := List.mem_map.mp h
    by_cases e : x.1 = k
    · rw [if_pos e]; exact .inl e
    · rw [if_neg e]; exact .inr ⟨x.2, hx⟩
  · rcases List.mem_append.mp h with h | h
    · exact .inr ⟨q.2, h⟩
    · rw [List.mem_singleton] at h
      subst h
      exact .inl rfl
theorem dput_keys (kvs : List (NestedKey × D)) (k : NestedKey) (d : D) : (dput kvs k d).map (·.1) = if (dget kvs k).isSome then kvs.map (·.1) else kvs.map (·.1) ++ [k] := by
  unfold dput
  split
  · rw [List.map_map]
    refine List.map_congr_left fun x _ => ?_
    show (if x.1 = k then (x.1, d) else x).1 = x.1
    split <;> rfl
  · rw [List.map_append]
    rfl
theorem dget_none {kvs : List (NestedKey × D)} {k : NestedKey} : (dget kvs k).isSome = false ↔ k ∉ kvs.map (·.1) := by
  unfold dget
  rw [Option.isSome_map]
  induction kvs with
  | nil => simp
  | cons x xs ih =>
    rw [List.find?_cons, List.map_cons, List.mem_cons]
    by_cases e : x.1 = k
    · rw [decide_eq_true e]; simp [e]
    · rw [decide_eq_false e]
      refine Iff.trans ih ?_
      constructor
      · exact fun h q => q.elim (fun z => e z.symm) h
      · exact fun h q => h (.inr q)
theorem dput_nodup {kvs : List (NestedKey × D)} {k : NestedKey} {d : D} (h : (kvs.map (·.1)).Nodup) : ((dput kvs k d).map (·.1)).Nodup := by
  rw [dput_keys]
  split
  · exact h
  · rename_i q
    have q' := dget_none.mp (Bool.eq_false_iff.mpr q)
    rw [List.nodup_append]
    exact ⟨h, by simp, fun x hx y hy => by
      rw [List.mem_singleton] at hy
      subst hy
      exact fun z => q' (z ▸ hx)⟩
theorem dput_length (kvs : List (NestedKey × D)) (k : NestedKey) (d : D) : (dput kvs k d).length ≤ kvs.length + 1 := by
  have e := congrArg List.length (dput_keys kvs k d)
  rw [List.length_map] at e
  rw [e]
  split
  · rw [List.length_map]; omega
  · rw [List.length_append, List.length_map]; exact Nat.le_refl _
section
variable {X : Cx} {pins : List (Addr × Obj)} {σ : L2.St} {H : Hp} {s : Shared} {μ : List Addr}
/-- the machine's object behind a change -/
theorem ro_dict {a : Addr} {kvs : List (NestedKey × D)} {ents : List DictEntry} (h1 : (a == sysModules) = false) (h2 : kvs.length ≤ sizeLine) (h3 : (kvs.map (·.1)).Nodup) (h4 : (∀ kv ∈ kvs, leafK kv.1 = true) ∨ ∀ kv ∈ kvs, leafK kv.1 = false) (h5 : ∀ kv ∈ kvs, kv.1.depth ≤ 8)
    (p : Paired (EntOk X.w X.K μ H) ents kvs) {H' : Hp} {μ' : List Addr} (hH : H' a = some (.ext (dφ a ents))) (x : Ext0 μ H μ' H') : RO X.w X.K μ' H' a (.dct kvs) :=
  ⟨h1, h2, h3, h4, h5, ents, hH, Paired.mapP p fun _ _ q => q.mono0 x⟩
theorem ext0_ext {μ : List Addr} {H : Hp} {p : Addr} {o : HO} {φ : Heap → Prop} (h : H p = some (.ext φ)) : Ext0 μ H μ (upd H p o) :=
  ⟨fun _ _ h => h, fun b ws e => by rw [upd_ne (ne_of e h fun z => by cases z)]; exact e, fun b ob u e => by rw [upd_ne (ne_of e h fun z => by cases z)]; exact e⟩
/-- d[k] = v in the heap, wherever d is known -/
theorem dict_core (I : Inv X pins σ H s) {a : Addr} {kvs : List (NestedKey × D)} (ro : RO X.w X.K μ H a (.dct kvs)) {k : NestedKey} (hf : fits kvs k = true) (hz : kvs.length < lim)
    {vk vv : V} {uk uv : Value} {d : D} (hk : RelV vk uk) (rk : RV X.K μ H vk (keyD k)) (hv : RelV vv uv) (rv : RV X.K μ H vv d) {A : Around} (hA : A.units + 100 < cLine) {E : Value → Shared → Prop} {Q : Unit → Shared → Prop}
    (h : ∀ h' tk o, Inv X pins σ (upd H a o) { s with heap := h', toks := tk } → RO X.w X.K μ (upd H a o) a (.dct (dput kvs k d)) → Q () { s with heap := h', toks := tk }) :
    wpAny (model X.prog X.w) A (setItem (.ref a) uk uv) Q E s ∧ wpAny (model X.prog X.w) A (dictSet a uk uv) Q E s := by
  obtain ⟨f1, f2⟩ := fits_of hf
  obtain ⟨d1, d2, d3⟩ := dview I ro.ror
  obtain ⟨_, _, nd, _, dep, ents0, hH, _⟩ := ro
  have hlen : (dput kvs k d).length ≤ sizeLine := by
    have := dput_length kvs k d
    have := lim_le
    omega
  have fin : ∀ (h' : Heap) (tk : Nat) (ents : List DictEntry), dφ a ents h' → Paired (EntOk X.w X.K μ H) ents (dput kvs k d) → Heap.SameBut a s.heap h' → Q () { s with heap := h', toks := tk } := by
    intro h' tk ents hφ hp sb
    have x : Ext0 μ H μ (upd H a (.ext (dφ a ents))) := ext0_ext hH
    have he : ∃ o, h'.get? a = some o := let ⟨o, _, _, q, _⟩ := hφ; ⟨o, q⟩
    refine h h' tk _ (I.write (x := a) (e := a) (by rw [hH]; exact trivial) (.inl rfl) (fun b u hb q => (sb.2 b hb).trans q) he (dφ_obj hφ)) (ro_dict d1 hlen (dput_nodup nd) ?_ ?_ hp upd_same x)
    · cases hk0 : leafK k with
      | true =>
        left
        intro kv hkv
        rcases dput_mem hkv with e | ⟨d', hm⟩
        · rw [e, hk0]
        · rw [f1 _ hm, hk0]
      | false =>
        right
        intro kv hkv
        rcases dput_mem hkv with e | ⟨d', hm⟩
        · rw [e, hk0]
        · rw [f1 _ hm, hk0]
    · intro kv hkv
      rcases dput_mem hkv with e | ⟨d', hm⟩
      · rw [e]; exact f2
      · exact dep (kv.1, d') hm
  have leafCase : leafK k = true → ∀ lk, s.heap.DictOf (plainK X.prog X.w) a lk → Paired (LP X.K μ H) lk kvs → wpAny (model X.prog X.w) A (setItem (.ref a) uk uv) Q E s ∧ wpAny (model X.prog X.w) A (dictSet a uk uv) Q E s := fun hk0 lk hd p => by
    obtain ⟨lf, el⟩ := leafOf_some hk0
    have ek := leafOf_key el
    have is : (plainK X.prog X.w).is lf uk = true := leaf_is (μ := μ) (H := H) (by rw [ek]; exact rk) hk
    have hsz : lk.length ≤ sizeLine := by rw [p.length]; exact d2
    have go : ∀ h', h'.DictOf (plainK X.prog X.w) a (PySem.stored lk lf uv) → Heap.SameBut a s.heap h' → Q () { s with heap := h', toks := s.toks + 1 } := fun h' hd' sb => by
      have p' := put_leaf p lf hv rv
      rw [ek] at p'
      obtain ⟨ents, e1, e2⟩ := dback_leaf hd' p'
      exact fin h' _ ents e1 e2 sb
    exact ⟨wpAny_setItem_pairs (hsz := hsz) is hd go, wpAny_dictSet_pairs (hsz := hsz) is hd go⟩
  have tupCase : leafK k = false → ∀ xs, s.heap.DictOfH (nestedKind X.prog X.w) a xs → Paired (TPr X.K μ H) xs kvs → wpAny (model X.prog X.w) A (setItem (.ref a) uk uv) Q E s ∧ wpAny (model X.prog X.w) A (dictSet a uk uv) Q E s := fun hk0 xs hd p => by
    obtain ⟨b, rfl⟩ := rv_ref hk0 rk
    cases hk
    have is : (nestedKind X.prog X.w).is s.heap k b := ⟨nested_is I _ _ _ rk rfl, f2⟩
    have hsz : xs.length ≤ sizeLine := by rw [p.length]; exact d2
    have go : ∀ h', h'.DictOfH (nestedKind X.prog X.w) a (storedH xs k b uv) → Heap.SameBut a s.heap h' → Q () { s with heap := h', toks := s.toks + (nestedKind X.prog X.w).draws k } := fun h' hd' sb => by
      obtain ⟨ents, e1, e2⟩ := dback_tup hd' (put_tup p k rk hv rv)
      exact fin h' _ ents e1 e2 sb
    exact ⟨wpAny_setItem_heap (hsz := hsz) (show A.in1.units + 8 < cLine by rw [Around.in1_units]; omega) is hd go, wpAny_dictSet_heap (hsz := hsz) (show A.units + 8 < cLine by omega) is hd go⟩
  rcases d3 with ⟨al, lk, hd, p⟩ | ⟨al, xs, hd, p⟩
  · cases hk0 : leafK k with
    | true => exact leafCase hk0 lk hd p
    | false =>
      -- no key is there yet
      have e0 : kvs = [] := by
        cases kvs with
        | nil => rfl
        | cons q r =>
          have a1 := f1 q List.mem_cons_self
          rw [al q List.mem_cons_self, hk0] at a1
          cases a1
      subst e0
      cases p
      obtain ⟨o, es, ep, q1, q2, q3, _, q5, _⟩ := hd
      have e1 : es.toList = [] := by
        cases q6 : es.toList with
        | nil => rfl
        | cons _ _ => rw [q6] at q5; cases q5
      exact tupCase hk0 [] ⟨o, es, ep, q1, q2, q3, e1, (fun x hx => by cases hx), List.nodup_nil⟩ .nil
  · cases hk0 : leafK k with
    | false => exact tupCase hk0 xs hd p
    | true =>
      have e0 : kvs = [] := by
        cases kvs with
        | nil => rfl
        | cons q r =>
          have a1 := f1 q List.mem_cons_self
          rw [al q List.mem_cons_self, hk0] at a1
          cases a1
      subst e0
      cases p
      obtain ⟨o, es, ep, q1, q2, q3, q5, _, _⟩ := hd
      refine leafCase hk0 [] ⟨o, es, ep, q1, q2, q3, fun e he => ?_, ?_, List.nodup_nil⟩ .nil
      · have := Array.mem_toList_iff.mpr he
        rw [q5] at this
        cases this
      · rw [q5]
        exact .nil
/-- .. of a dict that is a place -/
theorem dict_store (I : Inv X pins σ H s) {l : Nat} {a : Addr} {S : Store} {kvs : List (NestedKey × D)} (R : Rel X.w X.K μ H S) (hl : μ[l]? = some a) (hS : S[l]? = some (.dct kvs)) {k : NestedKey} (hf : fits kvs k = true) (hz : kvs.length < lim)
    {vk vv : V} {uk uv : Value} {d : D} (hk : RelV vk uk) (rk : RV X.K μ H vk (keyD k)) (hv : RelV vv uv) (rv : RV X.K μ H vv d) {A : Around} (hA : A.units + 100 < cLine) {E : Value → Shared → Prop} {Q : Unit → Shared → Prop}
    (h : ∀ h' tk H', Inv X pins σ H' { s with heap := h', toks := tk } → Ext μ H μ H' → Rel X.w X.K μ H' (S.set l (.dct (dput kvs k d))) → Q () { s with heap := h', toks := tk }) :
    wpAny (model X.prog X.w) A (setItem (.ref a) uk uv) Q E s ∧ wpAny (model X.prog X.w) A (dictSet a uk uv) Q E s := by
  obtain ⟨a', h1, ro⟩ := R.ob _ _ hS
  rw [hl] at h1
  obtain rfl := Option.some.inj h1
  obtain ⟨ents0, hu⟩ : ∃ ents, H a = some (.ext (dφ a ents)) := by obtain ⟨_, _, _, _, _, ents, h5, _⟩ := ro; exact ⟨ents, h5⟩
  have mu : Mut (some (.ext (dφ a ents0))) := trivial
  exact dict_core I ro hf hz hk rk hv rv hA fun h' tk o I' ro' => h h' tk _ I' (ext_set (List.mem_of_getElem? hl) hu mu) (R.set hl hu mu ro')
end
end VM

/-! VM8: looks at dicts, methods, truth -/
namespace VM
open PySem PySem.Spec PyProof.Rows L2

section
variable {X : Cx} {pins : List (Addr × Obj)} {σ : L2.St} {H : Hp} {s : Shared} {μ : List Addr}
/-- the dict's object, as one of the sort of the key -/
theorem dviewK (I : Inv X pins σ H s) {a : Addr} {kvs : List (NestedKey × D)} {k : NestedKey} (h : ROR X.w X.K μ H a kvs) (hf : fits kvs k = true) :
    (∃ lf : Leaf, lf.key = k ∧ ∃ lk, s.heap.DictOf (plainK X.prog X.w) a lk ∧ Paired (LP X.K μ H) lk kvs) ∨ (leafK k = false ∧ ∃ xs, s.heap.DictOfH (nestedKind X.prog X.w) a xs ∧ Paired (TPr X.K μ H) xs kvs) := by
  obtain ⟨f1, f2⟩ := fits_of hf
  obtain ⟨d1, d2, d3⟩ := dview I h
  cases hk0 : leafK k with
  | true =>
    left
    obtain ⟨lf, el⟩ := leafOf_some hk0
    refine ⟨lf, leafOf_key el, ?_⟩
    rcases d3 with ⟨al, lk, hd, p⟩ | ⟨al, xs, hd, p⟩
    · exact ⟨lk, hd, p⟩
    · have e0 : kvs = [] := by
        cases kvs with
        | nil => rfl
        | cons q r =>
          have a1 := f1 q List.mem_cons_self
          rw [al q List.mem_cons_self, hk0] at a1
          cases a1
      subst e0
      cases p
      obtain ⟨o, es, ep, q1, q2, q3, q5, _, _⟩ := hd
      refine ⟨[], ⟨o, es, ep, q1, q2, q3, fun e he => ?_, ?_, List.nodup_nil⟩, .nil⟩
      · have := Array.mem_toList_iff.mpr he
        rw [q5] at this
        cases this
      · rw [q5]
        exact .nil
  | false =>
    right
    refine ⟨rfl, ?_⟩
    rcases d3 with ⟨al, lk, hd, p⟩ | ⟨al, xs, hd, p⟩
    · have e0 : kvs = [] := by
        cases kvs with
        | nil => rfl
        | cons q r =>
          have a1 := f1 q List.mem_cons_self
          rw [al q List.mem_cons_self, hk0] at a1
          cases a1
      subst e0
      cases p
      obtain ⟨o, es, ep, q1, q2, q3, _, q5, _⟩ := hd
      have e1 : es.toList = [] := by
        cases q6 : es.toList with
        | nil => rfl
        | cons _ _ => rw [q6] at q5; cases q5
      exact ⟨[], ⟨o, es, ep, q1, q2, q3, e1, (fun x hx => by cases hx), List.nodup_nil⟩, .nil⟩
    · exact ⟨xs, hd, p⟩
theorem ro_sys {w : World} {K : PySem.W.Frag} {a : Addr} {kvs : List (NestedKey × D)} (h : ROR w K μ H a kvs) : (a == sysModules) = false := h.1
theorem ro_len {w : World} {K : PySem.W.Frag} {a : Addr} {kvs : List (NestedKey × D)} (h : ROR w K μ H a kvs) : kvs.length ≤ sizeLine := h.2.1
theorem roomN {A : Around} (hA : A.units + 100 < cLine) : (nestedKind X.prog X.w).room A.in1 := by
  show A.in1.units + 8 < cLine
  rw [Around.in1_units]
  omega
/-- what is found, in every way of asking -/
theorem dict_look (I : Inv X pins σ H s) {a : Addr} {kvs : List (NestedKey × D)} {k : NestedKey} (h : ROR X.w X.K μ H a kvs) (hf : fits kvs k = true) {vk : V} {uk : Value} (hk : RelV vk uk) (rk : RV X.K μ H vk (keyD k)) {A : Around} (hA : A.units + 100 < cLine) {E : Value → Shared → Prop} :
    (∀ d, dget kvs k = some d → ∀ Q : Value → Shared → Prop, (∀ u v tk, RelV v u → RV X.K μ H v d → Inv X pins σ H { s with toks := tk } → Q u { s with toks := tk }) → wpAny (model X.prog X.w) A (getItem (.ref a) uk) Q E s) ∧
    (∀ Q : Value → Shared → Prop, (∀ tk, Inv X pins σ H { s with toks := tk } → Q (.bool (dget kvs k).isSome) { s with toks := tk }) → wpAny (model X.prog X.w) A (compareOp .In uk (.ref a)) Q E s) ∧
    (∀ Q : Value → Shared → Prop, (∀ tk, Inv X pins σ H { s with toks := tk } → Q (.bool (!(dget kvs k).isSome)) { s with toks := tk }) → wpAny (model X.prog X.w) A (compareOp .NotIn uk (.ref a)) Q E s) ∧
    (∀ Q : Value → Shared → Prop, (∀ u v tk, RelV v u → RV X.K μ H v ((dget kvs k).getD .non) → Inv X pins σ H { s with toks := tk } → Q u { s with toks := tk }) → wpAny (model X.prog X.w) A (call (.builtin "dict.get") [.ref a, uk]) Q E s) ∧
    (∀ (dx : D) (vx : V) (ux : Value), RelV vx ux → RV X.K μ H vx dx → ∀ Q : Value → Shared → Prop, (∀ u v tk, RelV v u → RV X.K μ H v ((dget kvs k).getD dx) → Inv X pins σ H { s with toks := tk } → Q u { s with toks := tk }) → wpAny (model X.prog X.w) A (call (.builtin "dict.get") [.ref a, uk, ux]) Q E s) := by
  have lo := ro_sys h
  rcases dviewK I h hf with ⟨lf, ek, lk, hd, p⟩ | ⟨hk0, xs, hd, p⟩
  · subst ek
    have is : (plainK X.prog X.w).is lf uk = true := leaf_is (μ := μ) (H := H) rk hk
    have hty : s.TypeIs (.ref a) "dict" := hd.typeIs
    rcases dget_leaf p lf with ⟨g1, g2⟩ | ⟨d, u, v, g1, g2, g3, g4⟩
    · rw [g1]
      refine ⟨(fun d e => by cases e), fun Q q => ?_, fun Q q => ?_, fun Q q => ?_, fun dx vx ux hx rx Q q => ?_⟩
      · exact wpAny_in_of is lo hd.mapOf (by rw [g2]; exact q _ (I.tok _))
      · exact wpAny_notIn_of is lo hd.mapOf (by rw [g2]; exact q _ (I.tok _))
      · exact call_meetsIn PySem.F.slot_dict_get hty PySem.F.entry_dict_get (PySem.F.args_dict_get_2 _ _) (meets_dict_get (plainK X.prog X.w) a is lo) ⟨_, hd.mapOf, by rw [g2]; exact q .none .non _ rfl .non (I.tok _)⟩
      · exact call_meetsIn PySem.F.slot_dict_get hty PySem.F.entry_dict_get (PySem.F.args_dict_get_3 _ _ _) (meets_dict_get_default (plainK X.prog X.w) a is lo ux) ⟨_, hd.mapOf, by rw [g2]; exact q ux vx _ hx rx (I.tok _)⟩
    · rw [g1]
      refine ⟨fun d' e Q q => ?_, fun Q q => ?_, fun Q q => ?_, fun Q q => ?_, fun dx vx ux hx rx Q q => ?_⟩
      · obtain rfl := Option.some.inj e
        exact wpAny_getItem_of is hd.mapOf g2 (q u v _ g3 g4 (I.tok _))
      · exact wpAny_in_of is lo hd.mapOf (by rw [g2]; exact q _ (I.tok _))
      · exact wpAny_notIn_of is lo hd.mapOf (by rw [g2]; exact q _ (I.tok _))
      · exact call_meetsIn PySem.F.slot_dict_get hty PySem.F.entry_dict_get (PySem.F.args_dict_get_2 _ _) (meets_dict_get (plainK X.prog X.w) a is lo) ⟨_, hd.mapOf, by rw [g2]; exact q u v _ g3 g4 (I.tok _)⟩
      · exact call_meetsIn PySem.F.slot_dict_get hty PySem.F.entry_dict_get (PySem.F.args_dict_get_3 _ _ _) (meets_dict_get_default (plainK X.prog X.w) a is lo ux) ⟨_, hd.mapOf, by rw [g2]; exact q u v _ g3 g4 (I.tok _)⟩
  · obtain ⟨b, rfl⟩ := rv_ref hk0 rk
    cases hk
    have is : (nestedKind X.prog X.w).is s.heap k b := ⟨nested_is I _ _ _ rk rfl, (fits_of hf).2⟩
    have hty : s.TypeIs (.ref a) "dict" := hd.typeIs
    rcases dget_tup p k with ⟨g1, g2⟩ | ⟨d, b', u, v, g1, g2, g3, g4⟩
    · rw [g1]
      refine ⟨(fun d e => by cases e), fun Q q => ?_, fun Q q => ?_, fun Q q => ?_, fun dx vx ux hx rx Q q => ?_⟩
      · exact wpAny_in_heap (roomN hA) is lo hd (by rw [g2]; exact q _ (I.tok _))
      · exact notIn_keyed (roomN hA) is lo ⟨xs, hd, rfl⟩ (by rw [valueAt_pairsH, g2]; exact q _ (I.tok _))
      · exact call_meetsIn PySem.F.slot_dict_get hty PySem.F.entry_dict_get (PySem.F.args_dict_get_2 _ _) (meetsH_dict_get (nestedKind X.prog X.w) a b lo) ⟨roomN hA, k, xs, is, hd, by rw [g2]; exact q .none .non _ rfl .non (I.tok _)⟩
      · exact call_meetsIn PySem.F.slot_dict_get hty PySem.F.entry_dict_get (PySem.F.args_dict_get_3 _ _ _) (meetsH_dict_get_default (nestedKind X.prog X.w) a b lo ux) ⟨roomN hA, k, xs, is, hd, by rw [g2]; exact q ux vx _ hx rx (I.tok _)⟩
    · rw [g1]
      refine ⟨fun d' e Q q => ?_, fun Q q => ?_, fun Q q => ?_, fun Q q => ?_, fun dx vx ux hx rx Q q => ?_⟩
      · obtain rfl := Option.some.inj e
        exact wpAny_getItem_heap (roomN hA) is hd g2 (q u v _ g3 g4 (I.tok _))
      · exact wpAny_in_heap (roomN hA) is lo hd (by rw [g2]; exact q _ (I.tok _))
      · exact notIn_keyed (roomN hA) is lo ⟨xs, hd, rfl⟩ (by rw [valueAt_pairsH, g2]; exact q _ (I.tok _))
      · exact call_meetsIn PySem.F.slot_dict_get hty PySem.F.entry_dict_get (PySem.F.args_dict_get_2 _ _) (meetsH_dict_get (nestedKind X.prog X.w) a b lo) ⟨roomN hA, k, xs, is, hd, by rw [g2]; exact q u v _ g3 g4 (I.tok _)⟩
      · exact call_meetsIn PySem.F.slot_dict_get hty PySem.F.entry_dict_get (PySem.F.args_dict_get_3 _ _ _) (meetsH_dict_get_default (nestedKind X.prog X.w) a b lo ux) ⟨roomN hA, k, xs, is, hd, by rw [g2]; exact q u v _ g3 g4 (I.tok _)⟩
end

/-! ### machines -/
def dictOf (S : Store) : D → Option (List (NestedKey × D))
  | .dct l => match S[l]? with
    | some (.dct kvs) => some kvs
    | some (.dlk kvs) => some kvs
    | _ => none
  | _ => none
/-- a dict asked by a key -/
def lookD (S : Store) (x k : D) : Option (Option D) := match dictOf S x, D.key k with
  | some kvs, some nk => if fits kvs nk = true then some (dget kvs nk) else none
  | _, _ => none
def ixA (x y : D) : M D := fun S => match x with
  | .dct _ => match lookD S x y with
    | some (some d) => some (d, S)
    | _ => none
  | _ => idxM x y S
def inA (x y : D) : M D := fun S => match y with
  | .dct _ => (lookD S y x).map fun o => (.bl o.isSome, S)
  | _ => inM x y S
def ninA (x y : D) : M D := fun S => match y with
  | .dct _ => (lookD S y x).map fun o => (.bl (!o.isSome), S)
  | _ => ninM x y S
def setA (x k d : D) : M Unit := fun S => match x with
  | .dct l => match S[l]?, D.key k with
    | some (.dct kvs), some nk => if fits kvs nk = true ∧ kvs.length < lim then some ((), S.set l (.dct (dput kvs nk d))) else none
    | _, _ => none
  | _ => setM x k d S
section
variable {w : World} {K : PySem.W.Frag} {μ : List Addr} {H : Hp} {S : Store}
theorem rv_dict (R : Rel w K μ H S) {v : V} {x : D} {kvs : List (NestedKey × D)} (r : RV K μ H v x) (h : dictOf S x = some kvs) : ∃ l a, x = .dct l ∧ v = .ref a ∧ μ[l]? = some a ∧ (S[l]? = some (.dct kvs) ∨ S[l]? = some (.dlk kvs)) ∧ ROR w K μ H a kvs := by
  cases r with
  | @dct a l hl =>
    unfold dictOf at h
    dsimp only at h
    split at h
    · rename_i kvs' hS
      obtain rfl := Option.some.inj h
      obtain ⟨a', h1, h2⟩ := R.ob _ _ hS
      rw [hl] at h1
      obtain rfl := Option.some.inj h1
      exact ⟨l, a, rfl, rfl, hl, .inl hS, h2.ror⟩
    · rename_i kvs' hS
      obtain rfl := Option.some.inj h
      obtain ⟨a', h1, h2⟩ := R.ob _ _ hS
      rw [hl] at h1
      obtain rfl := Option.some.inj h1
      exact ⟨l, a, rfl, rfl, hl, .inr hS, h2.rorL⟩
    · cases h
  | _ => cases h
theorem lookD_some {x k : D} {o : Option D} (h : lookD S x k = some o) : ∃ kvs nk, dictOf S x = some kvs ∧ D.key k = some nk ∧ fits kvs nk = true ∧ o = dget kvs nk := by
  unfold lookD at h
  split at h
  · rename_i kvs nk h1 h2
    split at h
    · obtain rfl := Option.some.inj h
      exact ⟨kvs, nk, h1, h2, by assumption, rfl⟩
    · cases h
  · cases h
theorem rv_key {v : V} {d : D} {nk : NestedKey} (r : RV K μ H v d) (h : D.key d = some nk) : RV K μ H v (keyD nk) := by
  rw [D.key_of h]
  exact r
end
section
variable {X : Cx}
theorem room100 (G : Good X) : X.A.units + 100 < cLine := by have := G.un; omega
theorem ix_any (G : Good X) : IxR X (lR2 X.w X.K ixA) := by
  intro value slice pins s σ H x y v u Q I rx ry h hs
  obtain ⟨μ, S, d1, d2, d, S', R, r1, r2, e, P⟩ := h
  cases d1 with
  | dct l0 =>
    unfold ixA at e
    dsimp only at e
    split at e
    · rename_i d' hl
      obtain ⟨rfl, rfl⟩ := Prod.mk.inj (Option.some.inj e)
      obtain ⟨kvs, nk, h1, h2, h3, h4⟩ := lookD_some hl
      obtain ⟨l, a, _, rfl, hl2, hS, ro⟩ := rv_dict R r1 h1
      cases rx
      have lk := (dict_look I ro h3 ry (rv_key r2 h2) (room100 G) (E := X.xe)).1 _ h4.symm (EP X pins σ Q) fun u' v' tk hv' rv' I' => ⟨v', H, I', hv', post_val R rv' P⟩
      obtain ⟨_, _, d3⟩ := dview I ro
      have ty : s.TypeIs (.ref a) "dict" := by
        rcases d3 with ⟨_, _, hd, _⟩ | ⟨_, _, hd, _⟩
        · exact hd.typeIs
        · exact hd.typeIs
      exact tail_any ty PySem.F.slot_dict_getitem.lookup lk hs
    · cases e
  | _ => exact ix_idx value slice pins s σ H x y v u Q I rx ry ⟨μ, S, _, d2, d, S', R, r1, r2, e, P⟩ hs
theorem o_in (G : Good X) : OpR X (compareOp .In) (lR2 X.w X.K inA) := by
  intro pins s σ H x y v u Q I rx ry h
  obtain ⟨μ, S, d1, d2, d, S', R, r1, r2, e, P⟩ := h
  cases d2 with
  | dct l0 =>
    obtain ⟨o, e1, e2⟩ := Option.map_eq_some_iff.mp (show (lookD S (.dct l0) d1).map (fun o => (D.bl o.isSome, S)) = some (d, S') from e)
    obtain ⟨rfl, rfl⟩ := Prod.mk.inj e2
    obtain ⟨kvs, nk, h1, h2, h3, rfl⟩ := lookD_some e1
    obtain ⟨l, a, _, rfl, hl2, hS, ro⟩ := rv_dict R r2 h1
    cases ry
    exact (dict_look I ro h3 rx (rv_key r1 h2) (room100 G) (E := X.xe)).2.1 _ fun tk I' => ⟨.bl _, H, I', rfl, post_val R (.bl _) P⟩
  | _ => exact o_inS G pins s σ H x y v u Q I rx ry ⟨μ, S, d1, _, d, S', R, r1, r2, e, P⟩
theorem o_nin (G : Good X) : OpR X (compareOp .NotIn) (lR2 X.w X.K ninA) := by
  intro pins s σ H x y v u Q I rx ry h
  obtain ⟨μ, S, d1, d2, d, S', R, r1, r2, e, P⟩ := h
  cases d2 with
  | dct l0 =>
    obtain ⟨o, e1, e2⟩ := Option.map_eq_some_iff.mp (show (lookD S (.dct l0) d1).map (fun o => (D.bl (!o.isSome), S)) = some (d, S') from e)
    obtain ⟨rfl, rfl⟩ := Prod.mk.inj e2
    obtain ⟨kvs, nk, h1, h2, h3, rfl⟩ := lookD_some e1
    obtain ⟨l, a, _, rfl, hl2, hS, ro⟩ := rv_dict R r2 h1
    cases ry
    exact (dict_look I ro h3 rx (rv_key r1 h2) (room100 G) (E := X.xe)).2.2.1 _ fun tk I' => ⟨.bl _, H, I', rfl, post_val R (.bl _) P⟩
  | _ => exact o_ninS G pins s σ H x y v u Q I rx ry ⟨μ, S, d1, _, d, S', R, r1, r2, e, P⟩
theorem st_any (G : Good X) : PSet X (lSet X.w X.K setA) := by
  intro pins s σ H o i v ov iv u Q I ro ri rv h
  obtain ⟨μ, S, d1, d2, d3, S', R, r1, r2, r3, e, P⟩ := h
  cases d1 with
  | dct l =>
    unfold setA at e
    dsimp only at e
    split at e
    · rename_i kvs nk hS hk
      split at e
      · rename_i hc
        obtain ⟨_, rfl⟩ := Prod.mk.inj (Option.some.inj e)
        cases r1 with
        | dct hl =>
          cases ro
          exact (dict_store (E := X.xe) (Q := fun _ s' => ∃ H', Inv X pins σ H' s' ∧ Q H') I R hl hS hc.1 hc.2 ri (rv_key r2 hk) rv r3 (room100 G) fun h' tk H' I' x' R' => ⟨H', I', P μ H' x' R'⟩).1
      · cases e
    · cases e
  | _ => exact st_set pins s σ H o i v ov iv u Q I ro ri rv ⟨μ, S, _, d2, d3, S', R, r1, r2, r3, e, P⟩
end

/-! ### methods -/
/-- what a method of this name does with a receiver that is ok -/
structure Meth0 (X : Cx) (name : Str) (ok : D → Store → Bool) (f : D → List D → M D) : Prop where
  run : ∀ (pins : List (Addr × Obj)) (s : Shared) (σ : L2.St) (H : Hp) (μ : List Addr) (S : Store) (v : V) (u : Value) (d : D), Inv X pins σ H s → RelV v u → Rel X.w X.K μ H S → RV X.K μ H v d → ok d S = true →
    ∃ (T id : String), PlainAttrs T ∧ Slot T name id ∧ typeOf (.builtin id) = pure (.type "method_descriptor") ∧ s.TypeIs u T ∧ (∀ a, u = .ref a → ∃ ob, s.heap.get? a = some ob ∧ ob.dict = none) ∧
      ∀ (s2 : Shared) (H2 : Hp) (μ2 : List Addr) (S2 S3 : Store) (xs : List V) (us : List Value) (ds : List D) (r : D) (Q : VK), Inv X pins σ H2 s2 → Vals xs us → Ext μ H μ2 H2 → Rel X.w X.K μ2 H2 S2 → RVs X.K μ2 H2 xs ds → f d ds S2 = some (r, S3) → Post X.w X.K μ2 H2 S3 r Q →
        wpAny (model X.prog X.w) X.A (call (.builtin id) (u :: us)) (EP X pins σ Q) X.xe s2
def mMeth (ok : D → Store → Bool) (f : D → List D → M D) (mo : EM) (ma : AM) : EM := fun ρ => bnd (mo ρ) fun o S => if ok o S = true then bnd (ma ρ) (fun as => f o as) S else none
section
variable {X : Cx} {o e : Expr} {es : List Expr} {name : Str} {apos cpos : Pos} {ok : D → Store → Bool} {f : D → List D → M D} {mo : EM} {ma : AM}
theorem e_meth (hm : Meth0 X name ok f) (ho : PE X o (lE X.w X.K mo)) (ha : PA X (e :: es) (lA X.w X.K ma)) (hbase : attributeBase o name X.env (eval o X.env) = eval o X.env := by rfl)
    (hfew : ((backTo cpos (starEach (e :: es) X.env)).all (fun x => !x.1) && (backToKw cpos (keywordEach [] X.env)).all (fun x => x.1.isSome) && decide ((e :: es).length + ([] : List Keyword).length + (if ([] : List Keyword).isEmpty then 0 else 1) < 30)) = true := by rfl)
    (hline : (apos.endLine == cpos.line) = true := by rfl) (hs : starEach (e :: es) X.env = (false, eval e X.env) :: starEach es X.env := by rfl) (hpl : (backTo cpos (starEach es X.env)).any (·.1) = false := by rfl) :
    PE X (.Call (.Attribute o name apos) (e :: es) [] cpos) (lE X.w X.K (mMeth ok f mo ma)) := by
  refine ⟨fun pins s σ H Q I h => ?_⟩
  obtain ⟨μ, S, ρ, r, S', R, E, e0, P⟩ := h
  obtain ⟨d, S1, e1, e2⟩ := bnd_some e0
  have e2' : (if ok d S1 = true then bnd (ma ρ) (fun as => f d as) S1 else none) = some (r, S') := e2
  split at e2'
  · rename_i hok
    obtain ⟨ds, S2, e3, e4⟩ := bnd_some e2'
    refine wpAny_Call_method_late hbase hfew hline rfl (thn (ho.run pins s σ H (fun v H1 => ∃ μ1, Ext μ H μ1 H1 ∧ Rel X.w X.K μ1 H1 S1 ∧ RV X.K μ1 H1 v d) I ⟨μ, S, ρ, d, S1, R, E, e1, fun μ1 H1 v x1 R1 r1 => ⟨μ1, x1, R1, r1⟩⟩) fun u s1 ⟨v, H1, I1, rv, μ1, x1, R1, r1⟩ => ?_)
    obtain ⟨T, id, m1, m2, m3, m4, m5, m6⟩ := hm.run pins s1 σ H1 μ1 S1 v u d I1 rv R1 r1 hok
    refine ⟨T, id, m1, m2, m3, m4, m5, ?_⟩
    have hA := ha.run cpos pins s1 σ H1 (fun xs H2 => ∃ μ2, Ext μ1 H1 μ2 H2 ∧ Rel X.w X.K μ2 H2 S2 ∧ RVs X.K μ2 H2 xs ds) I1 ⟨μ1, S1, ρ, ds, S2, R1, E.mono x1, e3, fun μ2 H2 xs x2 R2 r2 => ⟨μ2, x2, R2, r2⟩⟩
    rw [hs] at hA ⊢
    refine Calls.callWith_builtin (by show (false || (backTo cpos (starEach es X.env)).any (·.1)) = false; rw [hpl] <;> rfl) (Calls.evalArgs_plain ?_)
    exact thn hA fun us s2 ⟨xs, H2, I2, rx, μ2, x2, R2, r2⟩ => m6 s2 H2 μ2 S2 S' xs us ds r Q I2 rx x2 R2 r2 e4 (P.step (x1.trans x2))
  · cases e2'
theorem e_meth0 (hm : Meth0 X name ok f) (ho : PE X o (lE X.w X.K mo)) (hbase : attributeBase o name X.env (eval o X.env) = eval o X.env := by rfl) (hline : (apos.endLine == cpos.line) = true := by rfl) :
    PE X (.Call (.Attribute o name apos) [] [] cpos) (lE X.w X.K (mMeth ok f mo aNil)) := by
  refine ⟨fun pins s σ H Q I h => ?_⟩
  obtain ⟨μ, S, ρ, r, S', R, E, e0, P⟩ := h
  obtain ⟨d, S1, e1, e2⟩ := bnd_some e0
  have e2' : (if ok d S1 = true then bnd (aNil ρ) (fun as => f d as) S1 else none) = some (r, S') := e2
  split at e2'
  · rename_i hok
    obtain ⟨ds, S2, e3, e4⟩ := bnd_some e2'
    obtain ⟨rfl, rfl⟩ := Prod.mk.inj (Option.some.inj e3)
    refine wpAny_Call_method0_late hbase hline (thn (ho.run pins s σ H (fun v H1 => ∃ μ1, Ext μ H μ1 H1 ∧ Rel X.w X.K μ1 H1 S1 ∧ RV X.K μ1 H1 v d) I ⟨μ, S, ρ, d, S1, R, E, e1, fun μ1 H1 v x1 R1 r1 => ⟨μ1, x1, R1, r1⟩⟩) fun u s1 ⟨v, H1, I1, rv, μ1, x1, R1, r1⟩ => ?_)
    obtain ⟨T, id, m1, m2, m3, m4, m5, m6⟩ := hm.run pins s1 σ H1 μ1 S1 v u d I1 rv R1 r1 hok
    exact ⟨T, id, m1, m2, m3, m4, m5, Calls.callWith_builtin rfl (PySem.evalArgs_none (m6 s1 H1 μ1 S1 S' [] [] [] r Q I1 .nil Ext.refl R1 .nil e4 (P.step x1)))⟩
  · cases e2'
end
def isLst (d : D) (S : Store) : Bool := match d with
  | .lst l => match S[l]? with
    | some (.lst _) => true
    | _ => false
  | _ => false
def isDct (d : D) (S : Store) : Bool := (dictOf S d).isSome
def isLD (d : D) (S : Store) : Bool := isLst d S || isDct d S
section
variable {X : Cx} {pins : List (Addr × Obj)} {s : Shared} {σ : L2.St} {H : Hp} {μ : List Addr} {S : Store} {v : V} {u : Value} {d : D}
theorem lst_recv (I : Inv X pins σ H s) (ru : RelV v u) (R : Rel X.w X.K μ H S) (r : RV X.K μ H v d) (h : isLst d S = true) :
    ∃ l a, d = .lst l ∧ v = .ref a ∧ u = .ref a ∧ μ[l]? = some a ∧ s.TypeIs u "list" ∧ ∀ b, u = .ref b → ∃ ob, s.heap.get? b = some ob ∧ ob.dict = none := by
  cases r with
  | @lst a l hl =>
    unfold isLst at h
    dsimp only at h
    split at h
    · rename_i ds hS
      obtain ⟨a', vs, q1, q2, q3, q4⟩ := rv_list R (.lst hl) hS
      cases q1
      cases ru
      obtain ⟨t1, t2⟩ := tyV_is (T := "list") (x := .ref a) (v := .ref a) I rfl (.inl ⟨rfl, vs, .inl (.inl q3)⟩)
      exact ⟨l, a, rfl, rfl, rfl, hl, t1, t2⟩
    · cases h
  | _ => cases h
theorem dct_recv (I : Inv X pins σ H s) (ru : RelV v u) (R : Rel X.w X.K μ H S) (r : RV X.K μ H v d) (h : isDct d S = true) :
    ∃ l a, d = .dct l ∧ v = .ref a ∧ u = .ref a ∧ μ[l]? = some a ∧ s.TypeIs u "dict" ∧ ∀ b, u = .ref b → ∃ ob, s.heap.get? b = some ob ∧ ob.dict = none := by
  unfold isDct at h
  cases e : dictOf S d with
  | none => rw [e] at h; cases h
  | some kvs =>
    obtain ⟨l, a, rfl, rfl, hl, hS, ro⟩ := rv_dict R r e
    cases ru
    obtain ⟨_, _, _, _, _, ents, hH, _⟩ := ro
    obtain ⟨o, es, ep, q1, q2, q3, q4⟩ : (dφ a ents) s.heap := by
      rcases hH with hH | ⟨od, hH⟩
      · exact (show (dφ a ents) s.heap ∧ _ from I.hok a _ hH).1
      · exact (show s.heap.get? a = some od ∧ (dφ a ents) s.heap ∧ _ from I.hok a _ hH).2.1
    exact ⟨l, a, rfl, rfl, rfl, hl, ⟨o, q1, q2.1⟩, fun b eb => by cases eb; exact ⟨o, q1, q2.2.1⟩⟩
end
def appendL (l : Nat) (d : D) : M D := fun S => match S[l]? with
  | some (.lst ds) => if ds.length < lim then some (.non, S.set l (.lst (ds ++ [d]))) else none
  | _ => none
def appendM : D → List D → M D
  | .lst l, [d] => appendL l d
  | _, _ => fail
def extendL (l m : Nat) : M D := fun S => match S[l]?, S[m]? with
  | some (.lst ds), some (.lst es) => if ds.length + es.length ≤ lim then some (.non, S.set l (.lst (ds ++ es))) else none
  | _, _ => none
def extendM : D → List D → M D
  | .lst l, [.lst m] => extendL l m
  | _, _ => fail
def popL (l : Nat) : M D := fun S => match S[l]? with
  | some (.lst ds) => (ds[ds.length - 1]?).map fun d => (d, S.set l (.lst ds.dropLast))
  | _ => none
def popLA (l : Nat) (i : Int) : M D := fun S => match S[l]? with
  | some (.lst ds) => if -(2 ^ 63) ≤ i ∧ i < 2 ^ 63 then match seqIndex? i ds.length with
    | some k => (ds[k]?).map fun d => (d, S.set l (.lst (ds.eraseIdx k)))
    | none => none
    else none
  | _ => none
def popD (l : Nat) (k : D) : M D := fun S => match S[l]?, D.key k with
  | some (.dct kvs), some nk => if fits kvs nk = true then (dget kvs nk).map fun d => (d, S.set l (.dct (ddrop kvs nk))) else none
  | _, _ => none
def popM : D → List D → M D
  | .lst l, [] => popL l
  | .lst l, [.int i] => popLA l i
  | .dct l, [k] => popD l k
  | _, _ => fail
def getM : D → List D → M D
  | x, [k] => fun S => (lookD S x k).map fun o => (o.getD .non, S)
  | x, [k, d] => fun S => (lookD S x k).map fun o => (o.getD d, S)
  | _, _ => fail
section
variable {X : Cx}
theorem m_append : Meth0 X "append" isLst appendM := by
  refine ⟨fun pins s σ H μ S v u d I ru R r ok => ?_⟩
  obtain ⟨l, a, rfl, rfl, rfl, hl, t1, t2⟩ := lst_recv I ru R r ok
  refine ⟨"list", "list.append", PySem.F.plainAttrs_list, PySem.F.slot_list_append, PySem.F.type_list_append, t1, t2, fun s2 H2 μ2 S2 S3 xs us ds r2 Q I2 rx x2 R2 rs e0 P => ?_⟩
  obtain ⟨d', rfl, e⟩ : ∃ d', ds = [d'] ∧ appendL l d' S2 = some (r2, S3) := by
    match ds, e0 with
    | [d'], e => exact ⟨d', rfl, e⟩
  · obtain ⟨y, rfl, ry⟩ := rvs1 rs
    unfold appendL at e
    split at e
    · rename_i ds' hS
      split at e
      · rename_i hlen
        obtain ⟨rfl, rfl⟩ := Prod.mk.inj (Option.some.inj e)
        obtain ⟨a', vs, q1, q2, q3, q4⟩ := rv_list R2 (.lst (x2.pl _ _ hl)) hS
        cases q1
        have xx := ext_set (μ := μ2) (o := .lst (vs ++ [y])) (List.mem_of_getElem? q2) q3 trivial
        refine mt_append pins s2 σ H2 (.ref a) _ _ us Q I2 rfl rx ⟨_, vs, y, rfl, rfl, q3, ?_, post_set R2 q2 q3 trivial (ob := .lst (ds' ++ [d'])) ⟨_, upd_same, (RVs.append q4 (.cons ry .nil)).mono xx⟩ .non P⟩
        have := lim_le
        rw [q4.length]
        omega
      · cases e
    · cases e
theorem m_extend : Meth0 X "extend" isLst extendM := by
  refine ⟨fun pins s σ H μ S v u d I ru R r ok => ?_⟩
  obtain ⟨l, a, rfl, rfl, rfl, hl, t1, t2⟩ := lst_recv I ru R r ok
  refine ⟨"list", "list.extend", PySem.F.plainAttrs_list, PySem.F.slot_list_extend, PySem.F.type_list_extend, t1, t2, fun s2 H2 μ2 S2 S3 xs us ds r2 Q I2 rx x2 R2 rs e0 P => ?_⟩
  obtain ⟨m, rfl, e⟩ : ∃ m, ds = [.lst m] ∧ extendL l m S2 = some (r2, S3) := by
    match ds, e0 with
    | [.lst m], e => exact ⟨m, rfl, e⟩
  · obtain ⟨y, rfl, ry⟩ := rvs1 rs
    unfold extendL at e
    split at e
    · rename_i ds' es' hS hS2
      split at e
      · rename_i hlen
        obtain ⟨rfl, rfl⟩ := Prod.mk.inj (Option.some.inj e)
        obtain ⟨a', vs, q1, q2, q3, q4⟩ := rv_list R2 (.lst (x2.pl _ _ hl)) hS
        cases q1
        obtain ⟨b, ws, rfl, q6, q7, q8⟩ := rv_list R2 ry hS2
        have xx := ext_set (μ := μ2) (o := .lst (vs ++ ws)) (List.mem_of_getElem? q2) q3 trivial
        refine mt_extend pins s2 σ H2 (.ref a) _ _ us Q I2 rfl rx ⟨_, b, vs, ws, rfl, rfl, q3, q7, ?_, post_set R2 q2 q3 trivial (ob := .lst (ds' ++ es')) ⟨_, upd_same, (RVs.append q4 q8).mono xx⟩ .non P⟩
        have := lim_le
        rw [q4.length, q8.length]
        omega
      · cases e
    · cases e
theorem rvs_dropLast {K : PySem.W.Frag} {μ : List Addr} {H : Hp} {vs : List V} {ds : List D} (r : RVs K μ H vs ds) : RVs K μ H vs.dropLast ds.dropLast := by
  rw [List.dropLast_eq_take, List.dropLast_eq_take, r.length]
  exact r.take _
theorem leaf_part {l : Leaf} {u : Value} (h : (plainK X.prog X.w).is l u = true) : (keyPart u).isSome = true := by
  obtain ⟨h1, h2⟩ := Bool.and_eq_true_iff.mp h
  have h1 : Leaf.isOf l u = true := h1
  cases l with
  | none =>
    cases u with
    | none => rfl
    | _ => cases h1
  | num i =>
    cases u with
    | int j t => rfl
    | bool b => rfl
    | _ => cases h1
  | text x =>
    obtain ⟨t, rfl⟩ := Value.isStrOf_shape (show Value.isStrOf x u = true from h1)
    rfl
theorem dict_pop (G : Good X) {pins : List (Addr × Obj)} {s : Shared} {σ : L2.St} {H : Hp} {μ : List Addr} {S : Store} (I : Inv X pins σ H s) {l : Nat} {a : Addr} {kvs : List (NestedKey × D)} {k : NestedKey} (R : Rel X.w X.K μ H S) (hl : μ[l]? = some a) (hS : S[l]? = some (.dct kvs)) (hf : fits kvs k = true)
    {vk : V} {uk : Value} {d : D} (hk : RelV vk uk) (rk : RV X.K μ H vk (keyD k)) (hd0 : dget kvs k = some d) {Q : VK} (P : Post X.w X.K μ H (S.set l (.dct (ddrop kvs k))) d Q) :
    wpAny (model X.prog X.w) X.A (call (.builtin "dict.pop") [.ref a, uk]) (EP X pins σ Q) X.xe s := by
  obtain ⟨a', h1, ro⟩ := R.ob _ _ hS
  rw [hl] at h1
  obtain rfl := Option.some.inj h1
  have lo := ro_sys ro.ror
  have hz := ro_len ro.ror
  have vw := dviewK I ro.ror hf
  obtain ⟨_, _, nd, kinds, dep, ents0, hH, _⟩ := ro
  have sub : ∀ q ∈ ddrop kvs k, q ∈ kvs := fun q hq => (List.mem_filter.mp hq).1
  have fin : ∀ (h' : Heap) (tk : Nat) (ents : List DictEntry) (vd : V) (ud : Value), dφ a ents h' → Paired (EntOk X.w X.K μ H) ents (ddrop kvs k) → Heap.SameBut a s.heap h' → RelV vd ud → RV X.K μ H vd d → EP X pins σ Q ud { s with heap := h', toks := tk } := by
    intro h' tk ents vd ud hφ hp sb hvd rvd
    have x := ext_set (μ := μ) (o := .ext (dφ a ents)) (List.mem_of_getElem? hl) hH trivial
    have he : ∃ o, h'.get? a = some o := let ⟨o, _, _, q, _⟩ := hφ; ⟨o, q⟩
    refine ⟨vd, _, I.write (x := a) (e := a) (by rw [hH]; exact trivial) (.inl rfl) (fun b u hb q => (sb.2 b hb).trans q) he (dφ_obj hφ), hvd, P μ _ vd x (R.set hl hH trivial (ro_dict lo (Nat.le_trans (List.length_filter_le _ _) hz) ?_ ?_ (fun q hq => dep q (sub q hq)) hp upd_same x.toExt0)) (rvd.mono x)⟩
    · exact List.Nodup.sublist (List.Sublist.map _ List.filter_sublist) nd
    · exact kinds.imp (fun h q hq => h q (sub q hq)) fun h q hq => h q (sub q hq)
  rcases vw with ⟨lf, ek, lk, hd, p⟩ | ⟨hk0, xs, hd, p⟩
  · subst ek
    have is : (plainK X.prog X.w).is lf uk = true := leaf_is (μ := μ) (H := H) rk hk
    rcases dget_leaf p lf with ⟨g1, g2⟩ | ⟨d', u, v, g1, g2, g3, g4⟩
    · rw [g1] at hd0; cases hd0
    · rw [g1] at hd0
      obtain rfl := Option.some.inj hd0
      refine call_meetsIn PySem.F.slot_dict_pop hd.typeIs PySem.F.entry_dict_pop (PySem.F.args_dict_pop_2 _ _) (meets_dict_pop_there (plainK X.prog X.w) a is [] (.inl rfl) (leaf_part is)) ⟨lk, u, hd, by rw [p.length]; exact hz, g2, fun h' hd' sb => ?_⟩
      obtain ⟨ents, e1, e2⟩ := dback_leaf hd' (drop_leaf p lf)
      exact fin h' _ ents v u e1 e2 sb g3 g4
  · obtain ⟨b, rfl⟩ := rv_ref hk0 rk
    cases hk
    have is : (nestedKind X.prog X.w).is s.heap k b := ⟨nested_is I _ _ _ rk rfl, (fits_of hf).2⟩
    rcases dget_tup p k with ⟨g1, g2⟩ | ⟨d', b', u, v, g1, g2, g3, g4⟩
    · rw [g1] at hd0; cases hd0
    · rw [g1] at hd0
      obtain rfl := Option.some.inj hd0
      refine call_pop_heap (hsz := by rw [p.length]; exact hz) (.inl rfl) (PySem.F.args_dict_pop_2 _ _) (roomN (room100 G)) is lo hd g2 fun h' hd' sb => ?_
      obtain ⟨ents, e1, e2⟩ := dback_tup hd' (drop_tup p k)
      exact fin h' _ ents v u e1 e2 sb g3 g4
theorem m_pop (G : Good X) : Meth0 X "pop" isLD popM := by
  refine ⟨fun pins s σ H μ S v u d I ru R r ok => ?_⟩
  cases hd : isLst d S with
  | true =>
    obtain ⟨l, a, rfl, rfl, rfl, hl, t1, t2⟩ := lst_recv I ru R r hd
    refine ⟨"list", "list.pop", PySem.F.plainAttrs_list, PySem.F.slot_list_pop, PySem.F.type_list_pop, t1, t2, fun s2 H2 μ2 S2 S3 xs us ds r2 Q I2 rx x2 R2 rs e0 P => ?_⟩
    have e' : (ds = [] ∧ popL l S2 = some (r2, S3)) ∨ ∃ i, ds = [.int i] ∧ popLA l i S2 = some (r2, S3) := by
      match ds, e0 with
      | [], e => exact .inl ⟨rfl, e⟩
      | [.int i], e => exact .inr ⟨i, rfl, e⟩
    rcases e' with ⟨rfl, e⟩ | ⟨i, rfl, e⟩
    · cases rs
      unfold popL at e
      split at e
      · rename_i ds' hS
        obtain ⟨y, e1, e2⟩ := Option.map_eq_some_iff.mp e
        obtain ⟨rfl, rfl⟩ := Prod.mk.inj e2
        obtain ⟨a', vs, q1, q2, q3, q4⟩ := rv_list R2 (.lst (x2.pl _ _ hl)) hS
        cases q1
        obtain ⟨w1, g1, g2⟩ := q4.get e1
        have xx := ext_set (μ := μ2) (o := .lst vs.dropLast) (List.mem_of_getElem? q2) q3 trivial
        exact mt_pop pins s2 σ H2 (.ref a) _ _ us Q I2 rfl rx ⟨_, vs, w1, rfl, rfl, q3, by rw [q4.length]; exact g1, post_set R2 q2 q3 trivial (ob := .lst ds'.dropLast) ⟨_, upd_same, (rvs_dropLast q4).mono xx⟩ (g2.mono xx) P⟩
      · cases e
    · obtain ⟨y, rfl, ry⟩ := rvs1 rs
      cases ry
      unfold popLA at e
      split at e
      · rename_i ds' hS
        split at e
        · rename_i hb
          split at e
          · rename_i k hk
            obtain ⟨y, e1, e2⟩ := Option.map_eq_some_iff.mp e
            obtain ⟨rfl, rfl⟩ := Prod.mk.inj e2
            obtain ⟨a', vs, q1, q2, q3, q4⟩ := rv_list R2 (.lst (x2.pl _ _ hl)) hS
            cases q1
            obtain ⟨w1, g1, g2⟩ := q4.get e1
            have xx := ext_set (μ := μ2) (o := .lst (vs.eraseIdx k)) (List.mem_of_getElem? q2) q3 trivial
            exact mt_popAt pins s2 σ H2 (.ref a) _ _ us Q I2 rfl rx ⟨_, vs, i, k, w1, rfl, rfl, q3, hb.1, hb.2, by rw [q4.length]; exact hk, g1, post_set R2 q2 q3 trivial (ob := .lst (ds'.eraseIdx k)) ⟨_, upd_same, (RVs.eraseIdx k q4).mono xx⟩ (g2.mono xx) P⟩
          · cases e
        · cases e
      · cases e
  | false =>
    have ok' : isDct d S = true := by
      unfold isLD at ok
      rw [hd, Bool.false_or] at ok
      exact ok
    obtain ⟨l, a, rfl, rfl, rfl, hl, t1, t2⟩ := dct_recv I ru R r ok'
    refine ⟨"dict", "dict.pop", PySem.F.plainAttrs_dict, PySem.F.slot_dict_pop, PySem.F.type_dict_pop, t1, t2, fun s2 H2 μ2 S2 S3 xs us ds r2 Q I2 rx x2 R2 rs e0 P => ?_⟩
    obtain ⟨k, rfl, e⟩ : ∃ k, ds = [k] ∧ popD l k S2 = some (r2, S3) := by
      match ds, e0 with
      | [k], e => exact ⟨k, rfl, e⟩
    · obtain ⟨y, rfl, ry⟩ := rvs1 rs
      unfold popD at e
      split at e
      · rename_i kvs nk hS hk
        split at e
        · rename_i hf
          obtain ⟨y', e1, e2⟩ := Option.map_eq_some_iff.mp e
          obtain ⟨rfl, rfl⟩ := Prod.mk.inj e2
          obtain ⟨uk, rfl, hv⟩ := Vals.one rx
          exact dict_pop G I2 R2 (x2.pl _ _ hl) hS hf hv (rv_key ry hk) e1 P
        · cases e
      · cases e
theorem m_get (G : Good X) : Meth0 X "get" isDct getM := by
  refine ⟨fun pins s σ H μ S v u d I ru R r ok => ?_⟩
  obtain ⟨l, a, rfl, rfl, rfl, hl, t1, t2⟩ := dct_recv I ru R r ok
  refine ⟨"dict", "dict.get", PySem.F.plainAttrs_dict, PySem.F.slot_dict_get, PySem.F.type_dict_get, t1, t2, fun s2 H2 μ2 S2 S3 xs us ds r2 Q I2 rx x2 R2 rs e0 P => ?_⟩
  have e' : (∃ k, ds = [k] ∧ (lookD S2 (.dct l) k).map (fun o => (o.getD .non, S2)) = some (r2, S3)) ∨ ∃ k dx, ds = [k, dx] ∧ (lookD S2 (.dct l) k).map (fun o => (o.getD dx, S2)) = some (r2, S3) := by
    match ds, e0 with
    | [k], e => exact .inl ⟨k, rfl, e⟩
    | [k, dx], e => exact .inr ⟨k, dx, rfl, e⟩
  rcases e' with ⟨k, rfl, e⟩ | ⟨k, dx, rfl, e⟩
  · obtain ⟨y, rfl, ry⟩ := rvs1 rs
    obtain ⟨o, e1, e2⟩ := Option.map_eq_some_iff.mp e
    obtain ⟨rfl, rfl⟩ := Prod.mk.inj e2
    obtain ⟨kvs, nk, h1, h2, h3, rfl⟩ := lookD_some e1
    obtain ⟨l', a', q0, q1, hl2, hS, ro⟩ := rv_dict R2 (.dct (x2.pl _ _ hl)) h1
    cases q1
    obtain ⟨uk, rfl, hv⟩ := Vals.one rx
    exact (dict_look I2 ro h3 hv (rv_key ry h2) (room100 G) (E := X.xe)).2.2.2.1 _ fun u' v' tk hv' rv' I' => ⟨v', H2, I', hv', post_val R2 rv' P⟩
  · obtain ⟨y, z, rfl, ry, rz⟩ := rvs2 rs
    obtain ⟨o, e1, e2⟩ := Option.map_eq_some_iff.mp e
    obtain ⟨rfl, rfl⟩ := Prod.mk.inj e2
    obtain ⟨kvs, nk, h1, h2, h3, rfl⟩ := lookD_some e1
    obtain ⟨l', a', q0, q1, hl2, hS, ro⟩ := rv_dict R2 (.dct (x2.pl _ _ hl)) h1
    cases q1
    obtain ⟨uk, ux, rfl, hv, hvx⟩ := Vals.two rx
    exact (dict_look I2 ro h3 hv (rv_key ry h2) (room100 G) (E := X.xe)).2.2.2.2 dx z ux hvx rz _ fun u' v' tk hv' rv' I' => ⟨v', H2, I', hv', post_val R2 rv' P⟩
end
end VM

/-! VM9: what is walked, comprehensions -/
namespace VM
open PySem PySem.Spec PyProof.Rows L2

def seqLv (S : Store) : D → Option (List D × Lv)
  | .tup ds => some (ds, [])
  | .fz ds => some (ds, [])
  | .lst l => match S[l]? with
    | some (.lst ds) => some (ds, [(l, .lst ds)])
    | _ => none
  | _ => none
def mSeq (me : EM) : IM := fun ρ => bnd (me ρ) fun d S => (seqLv S d).map fun p => (p, S)
def isT : D → Bool
  | .tup _ => true
  | _ => false
def pairD : List D → List D → List D
  | x :: xs, y :: ys => .pr [x, y] :: pairD xs ys
  | _, _ => []
def zipM : List D → M (List D × Lv)
  | [x, y] => fun S => match seqLv S x, seqLv S y with
    | some (xs, l1), some (ys, l2) => if isT x = isT y then some ((pairD xs ys, l1 ++ l2), S) else none
    | _, _ => none
  | _ => fail
def mZip (ma : AM) : IM := fun ρ => bnd (ma ρ) zipM
def numD : Nat → List D → List D
  | _, [] => []
  | n, x :: xs => .pr [.int n, x] :: numD (n + 1) xs
def enumM : List D → M (List D × Lv)
  | [x] => fun S => match seqLv S x with
    | some (xs, l1) => if isT x = true then none else some ((numD 0 xs, l1), S)
    | none => none
  | _ => fail
def mEnum (ma : AM) : IM := fun ρ => bnd (ma ρ) enumM
def rowD (lo : Int) (n : Nat) : List D := (List.range n).map fun (i : Nat) => .int (lo + (i : Int))
def rng1 : List D → M (List D × Lv)
  | [.int j] => fun S => if -(2 ^ 62) ≤ j ∧ j < 2 ^ 62 then some ((rowD 0 j.toNat, []), S) else none
  | _ => fail
def rng2 : List D → M (List D × Lv)
  | [.int i, .int j] => fun S => if -(2 ^ 62) ≤ i ∧ i < 2 ^ 62 ∧ -(2 ^ 62) ≤ j ∧ j < 2 ^ 62 then some ((rowD i (j - i).toNat, []), S) else none
  | _ => fail
def mRange1 (ma : AM) : IM := fun ρ => bnd (ma ρ) rng1
def mRange2 (ma : AM) : IM := fun ρ => bnd (ma ρ) rng2
def rowC (lo c : Int) (n : Nat) : List D := (List.range n).map fun (i : Nat) => .int (lo + (i : Int) * c)
open Classical in
noncomputable def rng3 : List D → M (List D × Lv)
  | [.int i, .int j, .int c] => fun S => if RgC i j c (Builtin.Range.rangeSize i j c).toNat then some ((rowC i c (Builtin.Range.rangeSize i j c).toNat, []), S) else none
  | _ => fail
noncomputable def mRange3 (ma : AM) : IM := fun ρ => bnd (ma ρ) rng3

theorem rowD_get {lo : Int} {n i : Nat} {d : D} (h : (rowD lo n)[i]? = some d) : i < n ∧ d = .int (lo + i) := by
  unfold rowD at h
  rw [List.getElem?_map] at h
  obtain ⟨j, h1, h2⟩ := Option.map_eq_some_iff.mp h
  obtain ⟨h3, h4⟩ := List.getElem?_eq_some_iff.mp h1
  rw [List.getElem_range] at h4
  rw [List.length_range] at h3
  subst h4
  exact ⟨h3, h2.symm⟩
theorem rowC_get {lo c : Int} {n i : Nat} {d : D} (h : (rowC lo c n)[i]? = some d) : i < n ∧ d = .int (lo + (i : Nat) * c) := by
  unfold rowC at h
  rw [List.getElem?_map] at h
  obtain ⟨j, h1, h2⟩ := Option.map_eq_some_iff.mp h
  obtain ⟨h3, h4⟩ := List.getElem?_eq_some_iff.mp h1
  rw [List.getElem_range] at h4
  rw [List.length_range] at h3
  subst h4
  exact ⟨h3, h2.symm⟩
theorem rowD_len (lo : Int) (n : Nat) : (rowD lo n).length = n := by unfold rowD; rw [List.length_map, List.length_range]
theorem rowC_len (lo c : Int) (n : Nat) : (rowC lo c n).length = n := by unfold rowC; rw [List.length_map, List.length_range]
theorem numD_len : ∀ (n : Nat) (xs : List D), (numD n xs).length = xs.length
  | _, [] => rfl
  | n, x :: xs => congrArg (· + 1) (numD_len (n + 1) xs)
theorem numD_get : ∀ {xs : List D} {n i : Nat} {d : D}, (numD n xs)[i]? = some d → ∃ x, xs[i]? = some x ∧ d = .pr [.int ((n + i : Nat) : Int), x]
  | [], _, _, _, h => by simp [numD] at h
  | x :: xs, n, 0, d, h => by
    obtain rfl := Option.some.inj h
    exact ⟨x, rfl, rfl⟩
  | x :: xs, n, i + 1, d, h => by
    obtain ⟨y, h1, h2⟩ := numD_get (xs := xs) (n := n + 1) (i := i) (d := d) h
    exact ⟨y, h1, by rw [h2]; congr 3; omega⟩
theorem pairD_get : ∀ {xs ys : List D} {i : Nat} {d : D}, (pairD xs ys)[i]? = some d → ∃ x y, xs[i]? = some x ∧ ys[i]? = some y ∧ d = .pr [x, y]
  | [], _, _, _, h => by simp [pairD] at h
  | x :: xs, [], _, _, h => by simp [pairD] at h
  | x :: xs, y :: ys, 0, d, h => by
    obtain rfl := Option.some.inj h
    exact ⟨x, y, rfl, rfl, rfl⟩
  | x :: xs, y :: ys, i + 1, d, h => pairD_get (xs := xs) (ys := ys) (i := i) (d := d) h
theorem pairD_len : ∀ {xs ys : List D} {i : Nat}, (pairD xs ys).length ≤ i → xs.length ≤ i ∨ ys.length ≤ i
  | [], _, i, _ => .inl (Nat.zero_le i)
  | x :: xs, [], i, _ => .inr (Nat.zero_le i)
  | x :: xs, y :: ys, 0, h => by simp [pairD] at h
  | x :: xs, y :: ys, i + 1, h => (pairD_len (xs := xs) (ys := ys) (i := i) (Nat.le_of_succ_le_succ h)).imp Nat.succ_le_succ Nat.succ_le_succ

section
variable {w : World} {K : PySem.W.Frag} {μ : List Addr} {H : Hp} {S : Store}
/-- a list that is walked stands as it stood -/
theorem seq_list (R : Rel w K μ H S) {v : V} {d : D} {ds : List D} {lv : Lv} (r : RV K μ H v d) (h : seqLv S d = some (ds, lv)) (ht : isT d = false) :
    ∃ a, v = .ref a ∧ ∀ μ' H' S', Ext0 μ H μ' H' → Rel w K μ' H' S' → Live lv S' → ∃ vs, SqL K H' a vs ∧ RVs K μ' H' vs ds := by
  cases r with
  | tup _ _ => cases ht
  | fz hq rs =>
    obtain ⟨rfl, rfl⟩ := Prod.mk.inj (Option.some.inj h)
    exact ⟨_, rfl, fun μ' H' S' e _ _ => ⟨_, (e.fzL hq).sq, rs.mono0 e⟩⟩
  | @lst a l hl =>
    unfold seqLv at h
    dsimp only at h
    split at h
    · rename_i ds' hS
      obtain ⟨rfl, rfl⟩ := Prod.mk.inj (Option.some.inj h)
      refine ⟨a, rfl, fun μ' H' S' e R' L => ?_⟩
      have q := L _ (List.mem_singleton.mpr rfl)
      obtain ⟨a', vs, q1, q2, q3, q4⟩ := rv_list R' (RV.mono0 e (.lst hl)) q
      cases q1
      exact ⟨vs, .inl (.inl q3), q4⟩
    · cases h
  | _ => cases h
theorem seq_tup {v : V} {d : D} {ds : List D} {lv : Lv} (r : RV K μ H v d) (h : seqLv S d = some (ds, lv)) (ht : isT d = true) :
    ∃ a vs, v = .ref a ∧ SqT K H a vs ∧ RVs K μ H vs ds := by
  cases r with
  | tup hq rs =>
    obtain ⟨rfl, rfl⟩ := Prod.mk.inj (Option.some.inj h)
    exact ⟨_, _, rfl, hq.sq, rs⟩
  | _ => cases ht
end
section
variable {X : Cx} {pins : List (Addr × Obj)} {σ : L2.St} {H : Hp} {s : Shared}
theorem sql_one (I : Inv X pins σ H s) {a : Addr} {xs ys : List V} (h1 : SqL X.K H a xs) (h2 : SqL X.K H a ys) : xs = ys := I.list_inj h1 h2
end
theorem walk_list {w : World} {K : PySem.W.Frag} {μ : List Addr} {H : Hp} {a : Addr} {ds : List D} {lv : Lv} (h : ∀ μ' H' S', Ext0 μ H μ' H' → Rel w K μ' H' S' → Live lv S' → ∃ vs, SqL K H' a vs ∧ RVs K μ' H' vs ds) : Walk w K μ H (Itl K a) ds lv := by
  intro μ' H' S' e R L
  obtain ⟨vs, h1, h2⟩ := h μ' H' S' e R L
  refine ⟨fun i hi => ⟨vs, h1, by rw [h2.length]; exact hi⟩, fun i d hd => ?_⟩
  obtain ⟨v, hv, rv⟩ := h2.get hd
  refine ⟨⟨vs, v, h1, hv⟩, fun x H2 y => ?_⟩
  obtain ⟨rfl, y⟩ := y
  rw [y vs h1] at hv
  obtain rfl := Option.some.inj hv
  exact ⟨Ext.refl, fun _ _ => rfl, rv⟩
theorem walk_tup {w : World} {K : PySem.W.Frag} {μ : List Addr} {H : Hp} {a : Addr} {vs : List V} {ds : List D} {lv : Lv} (h1 : SqT K H a vs) (h2 : RVs K μ H vs ds) : Walk w K μ H (Itt K a) ds lv := by
  intro μ' H' S' e R L
  have h1 := e.sqT h1
  have h2 := h2.mono0 e
  refine ⟨fun i hi => ⟨vs, h1, by rw [h2.length]; exact hi⟩, fun i d hd => ?_⟩
  obtain ⟨v, hv, rv⟩ := h2.get hd
  refine ⟨⟨vs, v, h1, hv⟩, fun x H2 y => ?_⟩
  obtain ⟨rfl, y⟩ := y
  rw [y vs h1] at hv
  obtain rfl := Option.some.inj hv
  exact ⟨Ext.refl, fun _ _ => rfl, rv⟩
theorem walk_row {w : World} {K : PySem.W.Frag} {μ : List Addr} {H : Hp} {lo : Int} {n : Nat} {lv : Lv} : Walk w K μ H (Itr lo n) (rowD lo n) lv := by
  intro μ' H' S' e R L
  refine ⟨fun i hi => by rw [rowD_len] at hi; exact hi, fun i d hd => ?_⟩
  obtain ⟨h1, rfl⟩ := rowD_get hd
  refine ⟨h1, fun x H2 y => ?_⟩
  obtain ⟨rfl, rfl⟩ := y
  exact ⟨Ext.refl, fun _ _ => rfl, .int _⟩
theorem walk_rowC {w : World} {K : PySem.W.Frag} {μ : List Addr} {H : Hp} {lo c : Int} {n : Nat} {lv : Lv} : Walk w K μ H (Itc lo c n) (rowC lo c n) lv := by
  intro μ' H' S' e R L
  refine ⟨fun i hi => by rw [rowC_len] at hi; exact hi, fun i d hd => ?_⟩
  obtain ⟨h1, rfl⟩ := rowC_get hd
  refine ⟨h1, fun x H2 y => ?_⟩
  obtain ⟨rfl, rfl⟩ := y
  exact ⟨Ext.refl, fun _ _ => rfl, .int _⟩
theorem new_pair {w : World} {K : PySem.W.Frag} {μ : List Addr} {H : Hp} {T : Addr} {x y : V} {d1 d2 : D} (R : ∃ S, Rel w K μ H S) (hn : H T = none) (r1 : RV K μ H x d1) (r2 : RV K μ H y d2) :
    Ext μ H μ (upd H T (.tup [x, y])) ∧ (∀ a ∈ μ, (upd H T (.tup [x, y])) a = H a) ∧ RV K μ (upd H T (.tup [x, y])) (.ref T) (.pr [d1, d2]) := by
  obtain ⟨S, R⟩ := R
  have e := ext_upd (μ := μ) (o := .tup [x, y]) hn
  exact ⟨e, fun a ha => upd_ne fun z => R.notIn hn (z ▸ ha), .pr (.inl (.inl upd_same)) (.cons (r1.mono e) (.cons (r2.mono e) .nil))⟩
theorem walk_enum {w : World} {K : PySem.W.Frag} {μ : List Addr} {H : Hp} {a : Addr} {ds : List D} {lv : Lv} (h : ∀ μ' H' S', Ext0 μ H μ' H' → Rel w K μ' H' S' → Live lv S' → ∃ vs, SqL K H' a vs ∧ RVs K μ' H' vs ds) : Walk w K μ H (Ite K a) (numD 0 ds) lv := by
  intro μ' H' S' e R L
  obtain ⟨vs, h1, h2⟩ := h μ' H' S' e R L
  refine ⟨fun i hi => ⟨vs, h1, by rw [h2.length]; rw [numD_len] at hi; exact hi⟩, fun i d hd => ?_⟩
  obtain ⟨x, hx, rfl⟩ := numD_get hd
  obtain ⟨v, hv, rv⟩ := h2.get hx
  refine ⟨⟨vs, v, h1, hv⟩, fun x H2 y => ?_⟩
  obtain ⟨T, y1, rfl, hT, rfl, f⟩ := y
  rw [f vs h1] at hv
  obtain rfl := Option.some.inj hv
  rw [Nat.zero_add]
  exact new_pair ⟨_, R⟩ hT (.int _) rv
theorem walk_zipL {w : World} {K : PySem.W.Frag} {μ : List Addr} {H : Hp} {a b : Addr} {ds es : List D} {l1 l2 : Lv} (h : ∀ μ' H' S', Ext0 μ H μ' H' → Rel w K μ' H' S' → Live l1 S' → ∃ vs, SqL K H' a vs ∧ RVs K μ' H' vs ds)
    (h' : ∀ μ' H' S', Ext0 μ H μ' H' → Rel w K μ' H' S' → Live l2 S' → ∃ vs, SqL K H' b vs ∧ RVs K μ' H' vs es) : Walk w K μ H (Itz K a b) (pairD ds es) (l1 ++ l2) := by
  intro μ' H' S' e R L
  obtain ⟨vs, h1, h2⟩ := h μ' H' S' e R fun p hp => L p (List.mem_append_left _ hp)
  obtain ⟨ws, h3, h4⟩ := h' μ' H' S' e R fun p hp => L p (List.mem_append_right _ hp)
  refine ⟨fun i hi => ⟨vs, ws, h1, h3, by rw [h2.length, h4.length]; exact pairD_len hi⟩, fun i d hd => ?_⟩
  obtain ⟨x, y, hx, hy, rfl⟩ := pairD_get hd
  obtain ⟨v, hv, rv⟩ := h2.get hx
  obtain ⟨u, hu, ru⟩ := h4.get hy
  refine ⟨⟨vs, ws, v, u, h1, h3, hv, hu⟩, fun x H2 y => ?_⟩
  obtain ⟨T, y1, y2, rfl, hT, rfl, f, g⟩ := y
  rw [f vs h1] at hv
  obtain rfl := Option.some.inj hv
  rw [g ws h3] at hu
  obtain rfl := Option.some.inj hu
  exact new_pair ⟨_, R⟩ hT rv ru
theorem walk_zipT {w : World} {K : PySem.W.Frag} {μ : List Addr} {H : Hp} {a b : Addr} {vs ws : List V} {ds es : List D} {lv : Lv} (h1 : SqT K H a vs) (h2 : RVs K μ H vs ds) (h3 : SqT K H b ws) (h4 : RVs K μ H ws es) : Walk w K μ H (RZ.ItzT K a b) (pairD ds es) lv := by
  intro μ' H' S' e R L
  have h1 := e.sqT h1
  have h2 := h2.mono0 e
  have h3 := e.sqT h3
  have h4 := h4.mono0 e
  refine ⟨fun i hi => ⟨vs, ws, h1, h3, by rw [h2.length, h4.length]; exact pairD_len hi⟩, fun i d hd => ?_⟩
  obtain ⟨x, y, hx, hy, rfl⟩ := pairD_get hd
  obtain ⟨v, hv, rv⟩ := h2.get hx
  obtain ⟨u, hu, ru⟩ := h4.get hy
  refine ⟨⟨vs, ws, v, u, h1, h3, hv, hu⟩, fun x H2 y => ?_⟩
  obtain ⟨T, y1, y2, rfl, hT, rfl, f, g⟩ := y
  rw [f vs h1] at hv
  obtain rfl := Option.some.inj hv
  rw [g ws h3] at hu
  obtain rfl := Option.some.inj hu
  exact new_pair ⟨_, R⟩ hT rv ru

theorem seq_live {S : Store} {d : D} {ds : List D} {lv : Lv} (h : seqLv S d = some (ds, lv)) : Live lv S := by
  cases d with
  | lst l =>
    unfold seqLv at h
    dsimp only at h
    split at h
    · rename_i ds' hS
      obtain ⟨rfl, rfl⟩ := Prod.mk.inj (Option.some.inj h)
      intro p hp
      rw [List.mem_singleton.mp hp]
      exact hS
    · cases h
  | fz ds =>
    obtain ⟨rfl, rfl⟩ := Prod.mk.inj (Option.some.inj h)
    intro p hp
    cases hp
  | tup ds =>
    obtain ⟨rfl, rfl⟩ := Prod.mk.inj (Option.some.inj h)
    intro p hp
    cases hp
  | _ => cases h
section
variable {X : Cx} {tg : Expr} {ma : AM} {p pos tpos : Pos}
theorem pie_list {pins : List (Addr × Obj)} {σ : L2.St} {H : Hp} {s : Shared} {a : Addr} {xs : List V} {R : It → Hp → Prop} {E : Value → Shared → Prop} (I : Inv X pins σ H s) (hq : SqL X.K H a xs) (q : R (Itl X.K a) H) :
    wpAny (model X.prog X.w) X.A (pyIter (.ref a)) (PIE X pins σ tg R) E s := by
  obtain ⟨its, rv, pl, hz⟩ := I.list hq
  exact wpAny_pyIter_list pl.isList (pi_one (tk := s.toks) I { cls := .type "list_iterator", data := .fields #[.ref a, rawInt 0] } (turn_list a _) ⟨_, Heap.get?_push_size _ rfl, rfl, rfl⟩ q)
theorem pie_tup {pins : List (Addr × Obj)} {σ : L2.St} {H : Hp} {s : Shared} {a : Addr} {xs : List V} {R : It → Hp → Prop} {E : Value → Shared → Prop} (I : Inv X pins σ H s) (hq : SqT X.K H a xs) (q : R (Itt X.K a) H) :
    wpAny (model X.prog X.w) X.A (pyIter (.ref a)) (PIE X pins σ tg R) E s := by
  obtain ⟨its, rv, pl, hz⟩ := I.tuple hq
  exact wpAny_pyIter_tuple (show s.heap.IsTuple a its.toArray from pl) (pi_one (tk := s.toks) I { cls := .type "tuple_iterator", data := .fields #[.ref a, rawInt 0] } (turn_tuple a _) ⟨_, Heap.get?_push_size _ rfl, rfl, rfl⟩ q)
theorem i_seq {e : Expr} {me : EM} (he : PE X e (lE X.w X.K me)) : PI X tg e (lI X.w X.K (mSeq me)) := by
  refine ⟨fun pins s σ H R I h => ?_⟩
  obtain ⟨μ, S, ρ, items, lv, S', R0, E, e0, P⟩ := h
  obtain ⟨d, S1, e1, e2⟩ := bnd_some e0
  obtain ⟨q0, e3, e4⟩ := Option.map_eq_some_iff.mp e2
  obtain ⟨rfl, rfl⟩ := Prod.mk.inj e4
  refine thn (he.run pins s σ H (fun v H1 => ∃ μ1, Ext μ H μ1 H1 ∧ Rel X.w X.K μ1 H1 S1 ∧ RV X.K μ1 H1 v d) I ⟨μ, S, ρ, d, S1, R0, E, e1, fun μ1 H1 v x1 R1 r1 => ⟨μ1, x1, R1, r1⟩⟩) fun u s1 ⟨v, H1, I1, rv, μ1, x1, R1, r1⟩ => ?_
  cases ht : isT d with
  | true =>
    obtain ⟨a, vs, rfl, h1, h2⟩ := seq_tup r1 e3 ht
    cases rv
    exact pie_tup I1 h1 (P μ1 H1 _ x1 R1 (walk_tup h1 h2))
  | false =>
    obtain ⟨a, rfl, h1⟩ := seq_list R1 r1 e3 ht
    cases rv
    have lv1 := seq_live e3
    obtain ⟨vs, h2, h3⟩ := h1 μ1 H1 S1 Ext0.refl R1 lv1
    exact pie_list I1 h2 (P μ1 H1 _ x1 R1 (walk_list h1))
theorem lI_fn {w : World} {K : PySem.W.Frag} {σ : L2.St} {H : Hp} {R : It → Hp → Prop} {f : List D → M (List D × Lv)} {ma : AM} (h : lI w K (fun ρ => bnd (ma ρ) f) σ H R) :
    lA w K ma σ H fun vs H1 => ∃ μ S ds items lv S', Rel w K μ H1 S ∧ RVs K μ H1 vs ds ∧ f ds S = some ((items, lv), S') ∧ ∀ μ' H' J, Ext μ H1 μ' H' → Rel w K μ' H' S' → Walk w K μ' H' J items lv → R J H' := by
  obtain ⟨μ, S, ρ, items, lv, S', R0, E, e0, P⟩ := h
  obtain ⟨ds, S1, e1, e2⟩ := bnd_some e0
  exact ⟨μ, S, ρ, ds, S1, R0, E, e1, fun μ1 H1 vs x1 R1 r1 => ⟨μ1, S1, ds, items, lv, S', R1, r1, e2, fun μ' H' J x' R' W => P μ' H' J (x1.trans x') R' W⟩⟩
theorem i_range1 {a : Expr} (hm : X.mg "range" = none) (ha : PA X [a] (lA X.w X.K ma)) (hg : Gl X "range" := by rfl) (hs : starEach [a] X.env = [(false, eval a X.env)] := by rfl) : PI X tg (.Call (.Name "range" p) [a] [] pos) (lI X.w X.K (mRange1 ma)) := by
  refine pi_imp (pi_range1 hg hm (pa_imp ha fun _ _ _ q => q) hs) fun σ H R h => ?_
  obtain ⟨μ, S, ρ, ds, S1, h1, h2, h3, h4⟩ := lI_fn h
  refine ⟨μ, S, ρ, ds, S1, h1, h2, h3, fun μ1 H1 vs x1 R1 r1 => ?_⟩
  obtain ⟨μ2, S2, ds2, items, lv, S', R2, r2, e2, P⟩ := h4 μ1 H1 vs x1 R1 r1
  match ds2, e2 with
  | [.int j], e2 =>
    unfold rng1 at e2
    dsimp only at e2
    split at e2
    · rename_i hb
      obtain ⟨e3, rfl⟩ := Prod.mk.inj (Option.some.inj e2)
      obtain ⟨rfl, rfl⟩ := Prod.mk.inj e3
      obtain ⟨v, rfl, rv⟩ := rvs1 r2
      cases rv
      exact ⟨j, rfl, hb.1, hb.2, P μ2 H1 _ Ext.refl R2 walk_row⟩
    · cases e2
theorem i_range2 {a b : Expr} (hm : X.mg "range" = none) (ha : PA X [a, b] (lA X.w X.K ma)) (hg : Gl X "range" := by rfl) (hs : starEach [a, b] X.env = [(false, eval a X.env), (false, eval b X.env)] := by rfl) (hs2 : starEach [b] X.env = [(false, eval b X.env)] := by rfl) :
    PI X tg (.Call (.Name "range" p) [a, b] [] pos) (lI X.w X.K (mRange2 ma)) := by
  refine pi_imp (pi_range2 hg hm ha hs hs2) fun σ H R h => ?_
  obtain ⟨μ, S, ρ, ds, S1, h1, h2, h3, h4⟩ := lI_fn h
  refine ⟨μ, S, ρ, ds, S1, h1, h2, h3, fun μ1 H1 vs x1 R1 r1 => ?_⟩
  obtain ⟨μ2, S2, ds2, items, lv, S', R2, r2, e2, P⟩ := h4 μ1 H1 vs x1 R1 r1
  match ds2, e2 with
  | [.int i, .int j], e2 =>
    unfold rng2 at e2
    dsimp only at e2
    split at e2
    · rename_i hb
      obtain ⟨e3, rfl⟩ := Prod.mk.inj (Option.some.inj e2)
      obtain ⟨rfl, rfl⟩ := Prod.mk.inj e3
      obtain ⟨v, u, rfl, rv, ru⟩ := rvs2 r2
      cases rv
      cases ru
      exact ⟨i, j, rfl, hb, P μ2 H1 _ Ext.refl R2 walk_row⟩
    · cases e2
theorem rvs3 {K : PySem.W.Frag} {μ : List Addr} {H : Hp} {xs : List V} {d e f : D} (r : RVs K μ H xs [d, e, f]) : ∃ v u t, xs = [v, u, t] ∧ RV K μ H v d ∧ RV K μ H u e ∧ RV K μ H t f := by
  cases r with
  | cons h r =>
    obtain ⟨u, t, rfl, h1, h2⟩ := rvs2 r
    exact ⟨_, u, t, rfl, h, h1, h2⟩
theorem i_range3 {a b c : Expr} (hm : X.mg "range" = none) (ha : PA X [a, b, c] (lA X.w X.K ma)) (hg : Gl X "range" := by rfl) (hs : starEach [a, b, c] X.env = (false, eval a X.env) :: starEach [b, c] X.env := by rfl) (hpl : (backTo pos (starEach [b, c] X.env)).any (·.1) = false := by rfl) :
    PI X tg (.Call (.Name "range" p) [a, b, c] [] pos) (lI X.w X.K (mRange3 ma)) := by
  refine pi_imp (pi_range3 hg hm ha hs hpl) fun σ H R h => ?_
  obtain ⟨μ, S, ρ, ds, S1, h1, h2, h3, h4⟩ := lI_fn h
  refine ⟨μ, S, ρ, ds, S1, h1, h2, h3, fun μ1 H1 vs x1 R1 r1 => ?_⟩
  obtain ⟨μ2, S2, ds2, items, lv, S', R2, r2, e2, P⟩ := h4 μ1 H1 vs x1 R1 r1
  match ds2, e2 with
  | [.int i, .int j, .int c], e2 =>
    unfold rng3 at e2
    dsimp only at e2
    split at e2
    · rename_i hb
      obtain ⟨e3, rfl⟩ := Prod.mk.inj (Option.some.inj e2)
      obtain ⟨rfl, rfl⟩ := Prod.mk.inj e3
      obtain ⟨v, u, t, rfl, rv, ru, rt⟩ := rvs3 r2
      cases rv
      cases ru
      cases rt
      exact ⟨i, j, c, _, rfl, hb, P μ2 H1 _ Ext.refl R2 walk_rowC⟩
    · cases e2
theorem i_enum {e : Expr} {elts : List Expr} {kk : Nat} (hm : X.mg "enumerate" = none) (ha : PA X [e] (lA X.w X.K ma)) (hg : Gl X "enumerate" := by rfl) (hs : starEach [e] X.env = [(false, eval e X.env)] := by rfl) :
    PI X (.Tuple elts kk tpos) (.Call (.Name "enumerate" p) [e] [] pos) (lI X.w X.K (mEnum ma)) := by
  refine pi_imp (pi_enum hg hm ha hs) fun σ H R h => ?_
  obtain ⟨μ, S, ρ, ds, S1, h1, h2, h3, h4⟩ := lI_fn h
  refine ⟨μ, S, ρ, ds, S1, h1, h2, h3, fun μ1 H1 vs x1 R1 r1 => ?_⟩
  obtain ⟨μ2, S2, ds2, items, lv, S', R2, r2, e2, P⟩ := h4 μ1 H1 vs x1 R1 r1
  match ds2, e2 with
  | [x], e2 =>
    unfold enumM at e2
    dsimp only at e2
    split at e2
    · rename_i xs l1 hx
      split at e2
      · cases e2
      · rename_i ht
        obtain ⟨e3, rfl⟩ := Prod.mk.inj (Option.some.inj e2)
        obtain ⟨rfl, rfl⟩ := Prod.mk.inj e3
        obtain ⟨v, rfl, rv⟩ := rvs1 r2
        obtain ⟨a, rfl, h1⟩ := seq_list R2 rv hx (by simpa using ht)
        obtain ⟨vs, h2, h3⟩ := h1 μ2 H1 S2 Ext0.refl R2 (seq_live hx)
        exact ⟨a, vs, rfl, h2, P μ2 H1 _ Ext.refl R2 (walk_enum h1)⟩
    · cases e2
theorem i_zip {e e2 : Expr} {elts : List Expr} {kk : Nat} (hm : X.mg "zip" = none) (ha : PA X [e, e2] (lA X.w X.K ma)) (hg : Gl X "zip" := by rfl)
    (hs : starEach [e, e2] X.env = (false, eval e X.env) :: starEach [e2] X.env := by rfl) (hpl : (backTo pos (starEach [e2] X.env)).any (·.1) = false := by rfl) :
    PI X (.Tuple elts kk tpos) (.Call (.Name "zip" p) [e, e2] [] pos) (lI X.w X.K (mZip ma)) := by
  refine pi_imp (RZ.pi_zipA hg hm ha hs hpl) fun σ H R h => ?_
  obtain ⟨μ, S, ρ, ds, S1, h1, h2, h3, h4⟩ := lI_fn h
  refine ⟨μ, S, ρ, ds, S1, h1, h2, h3, fun μ1 H1 vs x1 R1 r1 => ?_⟩
  obtain ⟨μ2, S2, ds2, items, lv, S', R2, r2, e2, P⟩ := h4 μ1 H1 vs x1 R1 r1
  match ds2, e2 with
  | [x, y], e2 =>
    unfold zipM at e2
    dsimp only at e2
    split at e2
    · rename_i xs l1 ys l2 hx hy
      split at e2
      · rename_i ht
        obtain ⟨e3, rfl⟩ := Prod.mk.inj (Option.some.inj e2)
        obtain ⟨rfl, rfl⟩ := Prod.mk.inj e3
        obtain ⟨v, u, rfl, rv, ru⟩ := rvs2 r2
        cases hb : isT x with
        | true =>
          rw [hb] at ht
          obtain ⟨a, as, rfl, q1, q2⟩ := seq_tup rv hx hb
          obtain ⟨b, bs, rfl, q3, q4⟩ := seq_tup ru hy ht.symm
          exact ⟨a, b, as, bs, rfl, .inr ⟨q1, q3, P μ2 H1 _ Ext.refl R2 (walk_zipT q1 q2 q3 q4)⟩⟩
        | false =>
          rw [hb] at ht
          obtain ⟨a, rfl, q1⟩ := seq_list R2 rv hx hb
          obtain ⟨b, rfl, q2⟩ := seq_list R2 ru hy ht.symm
          obtain ⟨as, q3, q4⟩ := q1 μ2 H1 S2 Ext0.refl R2 (seq_live hx)
          obtain ⟨bs, q5, q6⟩ := q2 μ2 H1 S2 Ext0.refl R2 (seq_live hy)
          exact ⟨a, b, as, bs, rfl, .inl ⟨q3, q5, P μ2 H1 _ Ext.refl R2 (walk_zipL q1 q2)⟩⟩
      · cases e2
    · cases e2
end
end VM

/-! VM10: comprehensions as rules -/
namespace VM
open PySem PySem.Spec PyProof.Rows L2

section
variable {X : Cx}
theorem ts_nil : PTs X [] (lT X.w X.K tTrue) := ⟨fun pins s σ H Q I h => by
  obtain ⟨μ, S, ρ, b, S', R, E, e, P⟩ := h
  obtain ⟨rfl, rfl⟩ := Prod.mk.inj (Option.some.inj e)
  exact pts_nil.run pins s σ H Q I (P μ H Ext.refl R)⟩
theorem ts_one {c : Expr} {t : TM} (h : PT X c (lT X.w X.K t)) : PTs X [c] (lT X.w X.K t) := pts_one h
end
section
variable {X : Cx} {elt tg iter tg1 iter1 : Expr} {ifs ifs1 : List Expr} {scope : Scope} {own : List (Str × Nat)} {pos spos py : Pos} {mi mi1 : IM} {g g1 : GM} {t t1 : TM} {me : EM} {vs vs1 ws1 : List Nat}
theorem e_comp (G : Good X) (hN : X.N.Nodup) (own : List (Str × Nat)) (hi : PI X tg iter (lI X.w X.K mi)) (ok : BlkOk X.N X.env.scope scope own)
    (hg : ∀ (s : Shared) (H : Hp) (C : Addr) (cl : List (Str × Addr)) (fp : List Addr), PG (X.blk s H scope (compEnvC scope cl C X.env) fp) tg (lG X.w X.K vs g))
    (ht : ∀ (s : Shared) (H : Hp) (C : Addr) (cl : List (Str × Addr)) (fp : List Addr), PTs (X.blk s H scope (compEnvC scope cl C X.env) fp) ifs (lT X.w X.K t))
    (he : ∀ (s : Shared) (H : Hp) (C : Addr) (cl : List (Str × Addr)) (fp : List Addr), PE (X.blk s H scope (compEnvC scope cl C X.env) fp) elt (lE X.w X.K me))
    (hv : ∀ i ∈ vs, i ∈ own.map (·.2) := by decide) (hs : ∀ x, foldedSetIterable iter X.env x = pure x := by intro _; rfl) :
    PE X (.ListComp elt [⟨tg, iter, ifs, 0⟩] scope pos) (lE X.w X.K (mComp (own.map (·.2)) mi g t me)) :=
  pe_imp (pe_lc G.calm hN hi ok hg ht he hs) fun σ H Q h => lc_read hv h
theorem e_comp2 (G : Good X) (hN : X.N.Nodup) (own : List (Str × Nat)) (ws1 : List Nat) (hi : PI X tg iter (lI X.w X.K mi)) (ok : BlkOk X.N X.env.scope scope own)
    (hg : ∀ (s : Shared) (H : Hp) (C : Addr) (cl : List (Str × Addr)) (fp : List Addr), PG (X.blk s H scope (compEnvC scope cl C X.env) fp) tg (lG X.w X.K vs g))
    (ht : ∀ (s : Shared) (H : Hp) (C : Addr) (cl : List (Str × Addr)) (fp : List Addr), PTs (X.blk s H scope (compEnvC scope cl C X.env) fp) ifs (lT X.w X.K t))
    (hi1 : ∀ (s : Shared) (H : Hp) (C : Addr) (cl : List (Str × Addr)) (fp : List Addr), PI (X.blk s H scope (compEnvC scope cl C X.env) fp) tg1 iter1 (lI X.w X.K mi1))
    (hg1 : ∀ (s : Shared) (H : Hp) (C : Addr) (cl : List (Str × Addr)) (fp : List Addr), PG (X.blk s H scope (compEnvC scope cl C X.env) fp) tg1 (lG X.w X.K vs1 g1))
    (ht1 : ∀ (s : Shared) (H : Hp) (C : Addr) (cl : List (Str × Addr)) (fp : List Addr), PTs (X.blk s H scope (compEnvC scope cl C X.env) fp) ifs1 (lT X.w X.K t1))
    (he : ∀ (s : Shared) (H : Hp) (C : Addr) (cl : List (Str × Addr)) (fp : List Addr), PE (X.blk s H scope (compEnvC scope cl C X.env) fp) elt (lE X.w X.K me))
    (hv : ∀ i ∈ vs, i ∈ own.map (·.2) := by decide) (hw : ∀ i ∈ ws1, i ∈ own.map (·.2) := by decide) (hv1 : ∀ i ∈ vs1, i ∈ ws1 := by decide) (hs : ∀ x, foldedSetIterable iter X.env x = pure x := by intro _; rfl) (hs1 : ∀ env x, foldedSetIterable iter1 env x = pure x := by intro _ _; rfl) :
    PE X (.ListComp elt [⟨tg, iter, ifs, 0⟩, ⟨tg1, iter1, ifs1, 0⟩] scope pos) (lE X.w X.K (mComp2 (own.map (·.2)) mi g t ws1 mi1 g1 t1 me)) :=
  pe_imp (pe_lc2 G.calm hN hi ok hw hg ht hi1 hg1 ht1 he hs hs1) fun σ H Q h => lc2_read hv hv1 h
theorem lS_asgE {w : World} {K : PySem.W.Frag} {i : Nat} {m : EM} {D : Ends} {σ : L2.St} {H : Hp} (h : lS w K (sSet i m) D σ H) : lE w K m σ H fun x H1 => gName i x σ H1 D.nx := by
  obtain ⟨μ, S, ρ, o, S', R, E, e, P⟩ := h
  obtain ⟨d, S1, e1, e2⟩ := bnd_some e
  obtain ⟨rfl, rfl⟩ := Prod.mk.inj (Option.some.inj e2)
  exact ⟨μ, S, ρ, d, S1, R, E, e1, fun μ1 H1 v x1 R1 r1 => P μ1 H1 _ x1 R1 ((E.mono x1).set r1)⟩
/-- y = [..] on one line, y a plain local -/
theorem s_setComp (G : Good X) (hN : X.N.Nodup) (i : Nat) {y : Str} (own : List (Str × Nat)) (hi : PI X tg iter (lI X.w X.K mi)) (ok : BlkOk X.N X.env.scope scope own)
    (hg : ∀ (s : Shared) (H : Hp) (C : Addr) (cl : List (Str × Addr)) (fp : List Addr), PG (X.blk s H scope (compEnvC scope cl C X.env) fp) tg (lG X.w X.K vs g))
    (ht : ∀ (s : Shared) (H : Hp) (C : Addr) (cl : List (Str × Addr)) (fp : List Addr), PTs (X.blk s H scope (compEnvC scope cl C X.env) fp) ifs (lT X.w X.K t))
    (he : ∀ (s : Shared) (H : Hp) (C : Addr) (cl : List (Str × Addr)) (fp : List Addr), PE (X.blk s H scope (compEnvC scope cl C X.env) fp) elt (lE X.w X.K me))
    (hy : X.N[i]? = some y := by rfl) (hyl : X.env.scope.names.lookup y = some .local := by rfl) (hk : X.env.scope.kind = .function := by rfl)
    (hl : (py.line == pos.line) = true := by rfl) (hna : (scope.names.any fun (n, k) => n == y && (k == .local || k == .cell)) = false := by rfl)
    (hv : ∀ i ∈ vs, i ∈ own.map (·.2) := by decide) (hs : ∀ x, foldedSetIterable iter X.env x = pure x := by intro _; rfl) :
    PS X (.Assign [.Name y py] (.ListComp elt [⟨tg, iter, ifs, 0⟩] scope pos) spos) (lS X.w X.K (sSet i (mComp (own.map (·.2)) mi g t me))) :=
  ps_imp (ps_setLc G.calm hN hy hyl (sw_true hk hyl hl hna) hi ok hg ht he hs) fun D σ H h => lc_read hv (lS_asgE h)
theorem s_setComp2 (G : Good X) (hN : X.N.Nodup) (i : Nat) {y : Str} (own : List (Str × Nat)) (ws1 : List Nat) (hi : PI X tg iter (lI X.w X.K mi)) (ok : BlkOk X.N X.env.scope scope own)
    (hg : ∀ (s : Shared) (H : Hp) (C : Addr) (cl : List (Str × Addr)) (fp : List Addr), PG (X.blk s H scope (compEnvC scope cl C X.env) fp) tg (lG X.w X.K vs g))
    (ht : ∀ (s : Shared) (H : Hp) (C : Addr) (cl : List (Str × Addr)) (fp : List Addr), PTs (X.blk s H scope (compEnvC scope cl C X.env) fp) ifs (lT X.w X.K t))
    (hi1 : ∀ (s : Shared) (H : Hp) (C : Addr) (cl : List (Str × Addr)) (fp : List Addr), PI (X.blk s H scope (compEnvC scope cl C X.env) fp) tg1 iter1 (lI X.w X.K mi1))
    (hg1 : ∀ (s : Shared) (H : Hp) (C : Addr) (cl : List (Str × Addr)) (fp : List Addr), PG (X.blk s H scope (compEnvC scope cl C X.env) fp) tg1 (lG X.w X.K vs1 g1))
    (ht1 : ∀ (s : Shared) (H : Hp) (C : Addr) (cl : List (Str × Addr)) (fp : List Addr), PTs (X.blk s H scope (compEnvC scope cl C X.env) fp) ifs1 (lT X.w X.K t1))
    (he : ∀ (s : Shared) (H : Hp) (C : Addr) (cl : List (Str × Addr)) (fp : List Addr), PE (X.blk s H scope (compEnvC scope cl C X.env) fp) elt (lE X.w X.K me))
    (hy : X.N[i]? = some y := by rfl) (hyl : X.env.scope.names.lookup y = some .local := by rfl) (hk : X.env.scope.kind = .function := by rfl)
    (hl : (py.line == pos.line) = true := by rfl) (hna : (scope.names.any fun (n, k) => n == y && (k == .local || k == .cell)) = false := by rfl)
    (hv : ∀ i ∈ vs, i ∈ own.map (·.2) := by decide) (hw : ∀ i ∈ ws1, i ∈ own.map (·.2) := by decide) (hv1 : ∀ i ∈ vs1, i ∈ ws1 := by decide) (hs : ∀ x, foldedSetIterable iter X.env x = pure x := by intro _; rfl) (hs1 : ∀ env x, foldedSetIterable iter1 env x = pure x := by intro _ _; rfl) :
    PS X (.Assign [.Name y py] (.ListComp elt [⟨tg, iter, ifs, 0⟩, ⟨tg1, iter1, ifs1, 0⟩] scope pos) spos) (lS X.w X.K (sSet i (mComp2 (own.map (·.2)) mi g t ws1 mi1 g1 t1 me))) :=
  ps_imp (ps_setLc2 G.calm hN hy hyl (sw_true hk hyl hl hna) hi ok hw hg ht hi1 hg1 ht1 he hs hs1) fun D σ H h => lc2_read hv hv1 (lS_asgE h)
end

/-! ### dict comprehensions -/
/-- what is stored at D, in a context like Y -/
def Puts (P : Program) (w : World) (K : PySem.W.Frag) (A : Around) (D : Addr) (y z : V) (H : Hp) (N : Hp → Prop) : Prop :=
  ∀ (Y : Cx), Y.prog = P → Y.w = w → Y.K = K → ∀ (pins : List (Addr × Obj)) (σ : L2.St) (s : Shared) (u r : Value), Inv Y pins σ H s → RelV y u → RelV z r → wpAny (model P w) A (dictSet D u r) (fun _ s' => ∃ H', Inv Y pins σ H' s' ∧ N H') (fun _ _ => False) s
def tDx (P : Program) (w : World) (K : PySem.W.Frag) (A : Around) (wi : TI) (g : TG) (tt : TT) (tk tv : TE) (vs : List Nat) : TE := fun σ H Q => wi σ H fun J H1 => ∀ D, H1 D = none → (D == sysModules) = false → ∃ W : Nat → Nat → Hp → Prop, (∃ m, W 0 m (upd H1 D (.ext (dφ D [])))) ∧ ∀ i m H, W i m H →
  (J.stop i H ∧ Q (.ref D) H) ∨ (J.go i H ∧ ∃ Nx : Hp → Prop, (∀ H', Nx H' → ∃ m', m' < m ∧ W (i + 1) m' H') ∧ ∀ x H', J.yld i H x H' → g x (wipe σ vs) H' fun σ2 H2 => wipe σ2 vs = wipe σ vs ∧ tt σ2 H2 fun b H3 =>
    if b = true then tk σ2 H3 fun y H4 => tv σ2 H4 fun z H5 => Puts P w K A D y z H5 Nx else Nx H3)
section
variable {X : Cx}
theorem dφ_empty {P : Program} {w : World} {H : Hp} (h : Heap) : ObjOk P w H (h.push { cls := .type "dict", data := .dict #[] }) h.objs.size (.ext (dφ h.objs.size [])) :=
  dφ_obj ⟨_, #[], 0, Heap.get?_push_size _ rfl, ⟨rfl, rfl, rfl⟩, rfl, rfl⟩
theorem dx_core {pins : List (Addr × Obj)} {s : Shared} {σ : L2.St} {H : Hp} {Q : VK} {kx vx tg iter : Expr} {ifs : List Expr} {scope : Scope} {own : List (Str × Nat)} {pos pos' : Pos} {wi : TI} {g : TG} {tt : TT} {tk tv : TE} {use : Option (Value → Sem Unit)} {Qf : Value → Shared → Prop}
    (hc : X.calm = true) (hN : X.N.Nodup) (I : Inv X pins σ H s) (hi : PI X tg iter wi) (ok : BlkOk X.N X.env.scope scope own)
    (hg : ∀ (s : Shared) (H : Hp) (C : Addr) (cl : List (Str × Addr)) (fp : List Addr), PG (X.blk s H scope (compEnvC scope cl C X.env) fp) tg g)
    (ht : ∀ (s : Shared) (H : Hp) (C : Addr) (cl : List (Str × Addr)) (fp : List Addr), PTs (X.blk s H scope (compEnvC scope cl C X.env) fp) ifs tt)
    (hk : ∀ (s : Shared) (H : Hp) (C : Addr) (cl : List (Str × Addr)) (fp : List Addr), PE (X.blk s H scope (compEnvC scope cl C X.env) fp) kx tk)
    (he : ∀ (s : Shared) (H : Hp) (C : Addr) (cl : List (Str × Addr)) (fp : List Addr), PE (X.blk s H scope (compEnvC scope cl C X.env) fp) vx tv)
    (hs : ∀ x, foldedSetIterable iter X.env x = pure x) (h : tDx X.prog X.w X.K X.A wi g tt tk tv (own.map (·.2)) σ H Q)
    (hRR : ∀ D C s' m H', Inv X pins σ H' s' → Q (.ref D) H' → s'.heap.Ns C m → FpOk X pins H' C → compPost (model X.prog X.w) X.A X.xe use Qf (.ref D) C (.ok .next) s') :
    wpAny (model X.prog X.w) X.A (comprehension (.DictComp kx vx [⟨tg, iter, ifs, 0⟩] scope pos) scope X.env pos' newDict false (eval iter X.env) use) Qf X.xe s := by
  have fv : ∀ y ∈ scope.names, y.2 = .free → ∃ c, X.env.cells.lookup y.1 = some c := fun y hy e => (ok.free y hy e).elim (fun k => I.ok.has _ (.inl k)) fun k => I.ok.has _ (.inr k)
  refine wpAny_comprehension_free (use := use) rfl hs (closure_ok fv) ok.kind (fun y hy e => by rw [ok.uniq y hy, e]) (thn (hi.run pins s σ H _ I h) fun xv t1 hx => thn hx fun itv t2 h2 => ?_)
  obtain ⟨it, fp, tn, J, Ha, rfl, Ia, T, sta, fa, q⟩ := h2
  refine wpAny_newObj_type (newEnv_comp ?_)
  generalize hD : t2.heap.objs.size = D
  have hsys : (D == sysModules) = false := by rw [← hD]; exact beq_eq_false_iff_ne.mpr (Ne.symm (Nat.ne_of_lt Ia.big))
  obtain ⟨W, ⟨m0, w0⟩, turn⟩ := q D (Ia.hok.fresh (Nat.le_of_eq hD)) hsys
  generalize et3 : ({ t2 with heap := t2.heap.push { cls := .type "dict", data := .dict #[] } } : Shared) = t3
  have Ib : Inv X pins σ (upd Ha D (.ext (dφ D []))) t3 := by
    rw [← et3]
    refine Ia.laid (t' := t2.toks) (fun b o e => Heap.get?_push_of_some _ e) (Nat.le_of_eq hD) ?_
    rw [← hD]
    exact dφ_empty t2.heap
  have eh3 : t3.heap = t2.heap.push { cls := .type "dict", data := .dict #[] } := by rw [← et3]
  have small : ∀ b ∈ fp, b < t2.heap.objs.size := fun b hb => let ⟨o, e, _⟩ := T.obj _ _ sta b hb; Heap.lt_size e
  have fb : ∀ b ∈ fp, FpOk X pins (upd Ha D (.ext (dφ D []))) b ∧ b < t3.heap.objs.size := fun b hb => by
    have hlt := small b hb
    refine ⟨⟨?_, (fa b hb).2⟩, by rw [eh3, Heap.size_push]; exact Nat.lt_succ_of_lt hlt⟩
    rw [upd_ne (by rw [← hD]; exact Nat.ne_of_lt hlt)]
    exact (fa b hb).1
  have stb : tn 0 t3.heap := T.keep _ _ _ sta fun b _ o e => by rw [eh3]; exact Heap.get?_push_of_some _ e
  have Ic := block_start Ib ok hN fb
  have pg := hg t3 (upd Ha D (.ext (dφ D []))) t3.heap.objs.size (cellsFrom (t3.heap.objs.size + 1) scope.names (cloFrom X.env.cells scope.names [])) fp
  have pt := ht t3 (upd Ha D (.ext (dφ D []))) t3.heap.objs.size (cellsFrom (t3.heap.objs.size + 1) scope.names (cloFrom X.env.cells scope.names [])) fp
  have pk := hk t3 (upd Ha D (.ext (dφ D []))) t3.heap.objs.size (cellsFrom (t3.heap.objs.size + 1) scope.names (cloFrom X.env.cells scope.names [])) fp
  have pe := he t3 (upd Ha D (.ext (dφ D []))) t3.heap.objs.size (cellsFrom (t3.heap.objs.size + 1) scope.names (cloFrom X.env.cells scope.names [])) fp
  show codeAny _ _ (.compStart (.DictComp kx vx [⟨tg, iter, ifs, 0⟩] scope pos) 0 (.ref it) (.ref D) (compEnvC scope (cellsFrom (t3.heap.objs.size + 1) scope.names (cloFrom X.env.cells scope.names [])) t3.heap.objs.size X.env)) (compPost (model X.prog X.w) X.A X.xe use Qf (.ref D) t3.heap.objs.size) { t3 with heap := pushCells (t3.heap.push { cls := .type "dict", data := .dict #[] }) scope.names }
  have nfb : ∀ b ∈ fp, (upd Ha D (.ext (dφ D []))) b = none := fun b hb => (fb b hb).1.1
  generalize ece : compEnvC scope (cellsFrom (t3.heap.objs.size + 1) scope.names (cloFrom X.env.cells scope.names [])) t3.heap.objs.size X.env = ce at Ic pg pt pk pe ⊢
  have eloc : ce.locals = t3.heap.objs.size := by subst ece; rfl
  generalize eHb : upd Ha D (.ext (dφ D [])) = Hb at Ib Ic pg pt pk pe w0 nfb fb
  generalize et4 : ({ t3 with heap := pushCells (t3.heap.push { cls := .type "dict", data := .dict #[] }) scope.names } : Shared) = t4 at Ic ⊢
  have stc : tn 0 t4.heap := T.keep _ _ _ stb fun b _ o e => by rw [← et4]; exact pushCells_keeps _ _ _ _ (Heap.get?_push_of_some _ e)
  have apart : ∀ {σ' : L2.St} {H' : Hp} {s' : Shared}, Inv (X.blk t3 Hb scope ce fp) [] σ' H' s' → (∀ b ∈ fp, H' b = none) → ∀ b ∈ fp, FpOk (X.blk t3 Hb scope ce fp) [] H' b := fun {σ' H' s'} I' hn b hb =>
    ⟨hn b hb, (I'.ok.exf b hb).1, I'.ok.exfs b hb, .inl hb, fun x c e => (I'.ok.exf b hb).2 x c e, fun p hp => absurd (show p ∈ ([] : List (Addr × Obj)) ++ [] from hp) (by simp)⟩
  have loop : codeAny (model X.prog X.w) X.A (.compLoop (.DictComp kx vx [⟨tg, iter, ifs, 0⟩] scope pos) 0 (.ref it) (.ref D) ce) (compPost (model X.prog X.w) X.A X.xe use Qf (.ref D) t3.heap.objs.size) t4 := by
    refine compLoop_anyD (fun n s' => ∃ i H', Inv (X.blk t3 Hb scope ce fp) [] (wipe σ (own.map (·.2))) H' s' ∧ tn i s'.heap ∧ (∀ b ∈ fp, H' b = none) ∧ W i n H') ?_ m0 ⟨0, Hb, Ic, stc, nfb, w0⟩
    rintro n t5 ⟨i, Hd, Id, std, nd, wd⟩
    rcases turn i n Hd wd with ⟨stop, qq⟩ | ⟨go, Nx, hNx, step⟩
    · refine thnF (T.done (X.blk t3 Hb scope ce fp) rfl rfl rfl hc i [] t5 _ Hd (fun _ _ => False) Id (apart Id nd) std stop) fun r t6 ⟨hr, Ie⟩ => ?_
      subst hr
      have If : Inv X pins σ Hd t6 := Ib.call' (ch := fp) Ie.os Ie.base Ie.hok Ie.bare fun b hb => ⟨(fb b hb).1.2.2.2.1, (fb b hb).1.2.1, (fb b hb).1.2.2.2.2.1, (fb b hb).1.2.2.2.2.2⟩
      have nC : Hd t3.heap.objs.size = none := by
        have z : Hd ce.locals = none := Ie.free
        rwa [eloc] at z
      obtain ⟨m, hn, _⟩ := Ie.loc
      have hn : t6.heap.Ns ce.locals m := hn
      rw [eloc] at hn
      exact hRR D t3.heap.objs.size t6 m Hd If qq hn (Ib.fpOk (Nat.le_refl _) nC)
    · refine thnF (T.item (X.blk t3 Hb scope ce fp) rfl rfl rfl hc i [] t5 _ Hd (fun _ _ => False) Id (apart Id nd) std go) fun r t6 ⟨u, hr, hu⟩ => ?_
      subst hr
      refine thnF hu fun _ t7 ⟨x, He, Ie, rx, yx, ste, ne⟩ => ?_
      have Ip := Ie.pinned (apart Ie ne) (T.obj _ _ ste)
      refine thnF (pg.run _ t7 _ He x u _ Ip rx (step x He yx)) fun _ t8 ⟨σ8, Hf, If, hw8, q8⟩ => ?_
      refine thnF (pt.run _ t8 σ8 Hf _ If q8) fun b t9 ⟨Hg, Ig, q9⟩ => ?_
      have again : ∀ {s' : Shared} {H' : Hp}, Inv (X.blk t3 Hb scope ce fp) ([] ++ pinsAt fp t7.heap) σ8 H' s' → Nx H' → ∃ m, m < n ∧ ∃ i H', Inv (X.blk t3 Hb scope ce fp) [] (wipe σ (own.map (·.2))) H' s' ∧ tn i s'.heap ∧ (∀ b ∈ fp, H' b = none) ∧ W i m H' := fun {s' H'} I' nx => by
        obtain ⟨m', hm, w'⟩ := hNx H' nx
        have pin' : ∀ b ∈ fp, ∀ o, t7.heap.get? b = some o → s'.heap.get? b = some o ∧ H' b = none := fun b hb o e => let z := I'.pin (b, o) (List.mem_append_right _ (List.mem_append_right _ (mem_pinsAt hb e))); ⟨z.1, z.2.1⟩
        refine ⟨m', hm, i + 1, H', (I'.unpinned (pins := [])).weak (by rw [← hw8, wipe_length]) (fun j v e => ?_), T.keep _ _ _ ste fun b hb o e => (pin' b hb o e).1, fun b hb => ?_, w'⟩
        · rw [← hw8] at e
          exact (wipe_some e).1
        · obtain ⟨o, e, _⟩ := T.obj _ _ ste b hb
          exact (pin' b hb o e).2
      cases b with
      | false =>
        simp only [Bool.false_eq_true, if_false] at q9 ⊢
        exact again Ig q9
      | true =>
        simp only [if_true] at q9 ⊢
        refine thnF (pk.run _ t9 σ8 Hg _ Ig q9) fun z t10 ⟨yk, Hh, Ih, rk, q10⟩ => thnF (pe.run _ t10 σ8 Hh _ Ih q10) fun z2 t11 ⟨yv, Hi, Ii, rv, put⟩ => ?_
        exact thnF (put (X.blk t3 Hb scope ce fp) rfl rfl rfl _ _ t11 z z2 Ii rk rv) fun _ t12 ⟨Hj, Ij, nx⟩ => again Ij nx
  exact codeAny_compStart_dict loop (T.self X.A 0 _ _ _ stc loop)
end
end VM

/-! VM11: dict comprehensions, displays of dicts -/
namespace VM
open PySem PySem.Spec PyProof.Rows L2

abbrev KV' := List (NestedKey × D)
def putM (kvs : KV') (k v : D) : M KV' := fun S => match D.key k with
  | some nk => if fits kvs nk = true ∧ kvs.length < lim then some (dput kvs nk v, S) else none
  | none => none
def mkD (kvs : KV') : M D := fun S => some (.dct S.length, S ++ [.dct kvs])
open Classical in
noncomputable def dcGo (lv : Lv) (g : GM) (t : TM) (mk mv : EM) (ρ0 : Env) : List D → KV' → M KV'
  | [], kvs => fun S => if Live lv S then some (kvs, S) else none
  | d :: ds, kvs => fun S => if Live lv S then bnd (g d ρ0) (fun ρ1 => bnd (t ρ1) fun b => if b = true then bnd (mk ρ1) fun k => bnd (mv ρ1) fun v => bnd (putM kvs k v) fun kvs' => dcGo lv g t mk mv ρ0 ds kvs' else dcGo lv g t mk mv ρ0 ds kvs) S else none
noncomputable def mDComp (vs : List Nat) (mi : IM) (g : GM) (t : TM) (mk mv : EM) : EM := fun ρ => bnd (mi ρ) fun p => bnd (dcGo p.2 g t mk mv (wipeE vs ρ) p.1 []) mkD

/-- a dict is made at p, which is no place yet -/
structure MidD (w : World) (K : PySem.W.Frag) (μ0 : List Addr) (H0 : Hp) (p : Addr) (μ : List Addr) (H : Hp) (S : Store) (kvs : KV') : Prop where
  ex : Ext μ0 H0 μ H
  rel : Rel w K μ H S
  out : p ∉ μ
  ro : RO w K μ H p (.dct kvs)
section
variable {w : World} {K : PySem.W.Frag} {μ μ0 μ1 : List Addr} {H H0 H1 : Hp} {S S1 : Store} {p : Addr} {kvs : KV'}
theorem MidD.step (m : MidD w K μ0 H0 p μ H S kvs) (x : Ext μ H μ1 H1) (R : Rel w K μ1 H1 S1) : MidD w K μ0 H0 p μ1 H1 S1 kvs := by
  obtain ⟨u, hu, _⟩ := m.ro.there
  obtain ⟨e, n⟩ := x.kp p m.out (by rw [hu]; simp)
  exact ⟨m.ex.trans x, R, n, m.ro.mono0 x.toExt0 e⟩
theorem ro_ext {a : Addr} {kvs : KV'} (h : RO w K μ H a (.dct kvs)) : ∃ φ, H a = some (.ext φ) := by
  obtain ⟨_, _, _, _, _, ents, h1, _⟩ := h
  exact ⟨_, h1⟩
theorem MidD.put {kvs' : KV'} {o : HO} (hn : H0 p = none) (m : MidD w K μ0 H0 p μ H S kvs) (ro : RO w K μ (upd H p o) p (.dct kvs')) : MidD w K μ0 H0 p μ (upd H p o) S kvs' := by
  obtain ⟨φ, hφ⟩ := ro_ext m.ro
  have e : Ext0 μ H μ (upd H p o) := ext0_ext hφ
  refine ⟨⟨m.ex.toExt0.trans e, fun q hq n => ⟨(upd_ne fun z => n (by rw [z]; exact hn)).trans (m.ex.kp q hq n).1, (m.ex.kp q hq n).2⟩⟩, m.rel.grow e fun a ha => upd_ne fun z => m.out (z ▸ ha), m.out, ro⟩
theorem ro_nil (hp : (p == sysModules) = false) (h : H p = some (.ext (dφ p []))) : RO w K μ H p (.dct []) :=
  ⟨hp, Nat.zero_le _, List.nodup_nil, .inl (fun _ h => by cases h), (fun _ h => by cases h), [], h, .nil⟩
theorem MidD.start (hp : (p == sysModules) = false) (hn : H p = none) (R : Rel w K μ H S) : MidD w K μ H p μ (upd H p (.ext (dφ p []))) S [] :=
  ⟨ext_upd hn, R.new hn, R.notIn hn, ro_nil hp upd_same⟩
theorem MidD.done (hn : H0 p = none) (m : MidD w K μ0 H0 p μ H S kvs) : Ext μ0 H0 (μ ++ [p]) H ∧ Rel w K (μ ++ [p]) H (S ++ [.dct kvs]) ∧ RV K (μ ++ [p]) H (.ref p) (.dct S.length) := by
  have e : Ext0 μ H (μ ++ [p]) H := ⟨fun l b h => by rw [List.getElem?_append_left (List.getElem?_eq_some_iff.mp h).1]; exact h, fun _ _ h => h, fun _ _ _ h => h⟩
  exact ⟨ext_snoc m.ex hn, m.rel.snoc m.out (m.ro.mono0 e rfl), .dct (pl_last m.rel)⟩
end
theorem putM_some {kvs kvs' : KV'} {k v : D} {S S' : Store} (h : putM kvs k v S = some (kvs', S')) : ∃ nk, D.key k = some nk ∧ fits kvs nk = true ∧ kvs.length < lim ∧ kvs' = dput kvs nk v ∧ S' = S := by
  unfold putM at h
  split at h
  · rename_i nk hk
    split at h
    · rename_i hc
      obtain ⟨rfl, rfl⟩ := Prod.mk.inj (Option.some.inj h)
      exact ⟨nk, hk, hc.1, hc.2, rfl, rfl⟩
    · cases h
  · cases h
theorem puts_of {P : Program} {w : World} {K : PySem.W.Frag} {A : Around} (hA : A.units + 100 < cLine) {D : Addr} {y z : V} {μ : List Addr} {H : Hp} {kvs : KV'} {nk : NestedKey} {k v : VM.D} {N : Hp → Prop} (ro : RO w K μ H D (.dct kvs)) (hf : fits kvs nk = true) (hz : kvs.length < lim) (hk : VM.D.key k = some nk) (ry : RV K μ H y k) (rz : RV K μ H z v)
    (h : ∀ o, RO w K μ (upd H D o) D (.dct (dput kvs nk v)) → N (upd H D o)) : Puts P w K A D y z H N := by
  intro Y hP hw hK pins σ s u r I ru rr
  subst hP hw hK
  exact (dict_core I ro hf hz ru (rv_key ry hk) rr rz hA fun h' tk o I' ro' => ⟨_, I', h o ro'⟩).2
theorem dx_read {X : Cx} (G : Good X) {σ : L2.St} {H : Hp} {Q : VK} {vs ws : List Nat} {mi : IM} {g : GM} {t : TM} {mk mv : EM} (hs : ∀ i ∈ vs, i ∈ ws) (h : lE X.w X.K (mDComp ws mi g t mk mv) σ H Q) :
    tDx X.prog X.w X.K X.A (lI X.w X.K mi) (lG X.w X.K vs g) (lT X.w X.K t) (lE X.w X.K mk) (lE X.w X.K mv) ws σ H Q := by
  obtain ⟨μ, S, ρ, d, S', R, E, e, P⟩ := h
  obtain ⟨⟨items, lv⟩, S1, e1, e2⟩ := bnd_some e
  obtain ⟨rf, S3, e3, e4⟩ := bnd_some e2
  obtain ⟨rfl, rfl⟩ := Prod.mk.inj (Option.some.inj e4)
  refine ⟨μ, S, ρ, items, lv, S1, R, E, e1, fun μ1 H1 J x1 R1 wk p hp hsys => ?_⟩
  refine ⟨fun i m H2 => m = items.length - i ∧ i ≤ items.length ∧ ∃ μ2 S2 kvs, MidD X.w X.K μ1 H1 p μ2 H2 S2 kvs ∧ dcGo lv g t mk mv (wipeE ws ρ) (items.drop i) kvs S2 = some (rf, S3),
    ⟨_, rfl, Nat.zero_le _, μ1, S1, [], MidD.start hsys hp R1, e3⟩, ?_⟩
  rintro i m H2 ⟨rfl, hi, μ2, S2, kvs, M2, q⟩
  by_cases hlt : i < items.length
  · rw [List.drop_eq_getElem_cons hlt] at q
    unfold dcGo at q
    split at q
    · rename_i live
      obtain ⟨_, wg⟩ := wk μ2 H2 S2 M2.ex.toExt0 M2.rel live
      obtain ⟨ρ3, S4, q3, q4⟩ := bnd_some q
      obtain ⟨k, S5, q5, q6⟩ := bnd_some q4
      obtain ⟨go, yl⟩ := wg i items[i] (List.getElem?_eq_getElem hlt)
      refine .inr ⟨go, fun H5 => ∃ μ5 S5 kvs5, MidD X.w X.K μ1 H1 p μ5 H5 S5 kvs5 ∧ dcGo lv g t mk mv (wipeE ws ρ) (items.drop (i + 1)) kvs5 S5 = some (rf, S3), fun H5 hh => ⟨_, by omega, rfl, hlt, hh⟩, fun x H3 hy => ?_⟩
      obtain ⟨x3, keep, rx⟩ := yl x H3 hy
      have M3 := M2.step x3 (M2.rel.grow x3.toExt0 keep)
      refine ⟨μ2, S2, wipeE ws ρ, items[i], ρ3, S4, M3.rel, (E.mono (x1.trans M3.ex)).wipe ws, rx, q3, fun μ4 H4 σ4 x4 R4 E4 f4 => ⟨wipe_wipe f4 hs, μ4, S4, ρ3, k, S5, R4, E4, q5, fun μ5 H5 x5 R5 => ?_⟩⟩
      have M5 := (M3.step x4 R4).step x5 R5
      cases k with
      | false => exact ⟨μ5, S5, kvs, M5, q6⟩
      | true =>
        obtain ⟨y, S6, q7, q8⟩ := bnd_some q6
        obtain ⟨z, S7, q9, q10⟩ := bnd_some q8
        obtain ⟨kvs', S8, q11, q12⟩ := bnd_some q10
        obtain ⟨nk, hk, hf, hz, rfl, rfl⟩ := putM_some q11
        refine ⟨μ5, S5, ρ3, y, S6, R5, E4.mono x5, q7, fun μ6 H6 v x6 R6 r6 => ⟨μ6, S6, ρ3, z, _, R6, (E4.mono x5).mono x6, q9, fun μ7 H7 v' x7 R7 r7 => ?_⟩⟩
        have M7 := (M5.step x6 R6).step x7 R7
        exact puts_of (room100 G) M7.ro hf hz hk (r6.mono x7) r7 fun o ro' => ⟨μ7, _, _, M7.put hp ro', q12⟩
    · cases q
  · rw [List.drop_eq_nil_of_le (by omega)] at q
    unfold dcGo at q
    split at q
    · rename_i live
      obtain ⟨wst, _⟩ := wk μ2 H2 S2 M2.ex.toExt0 M2.rel live
      obtain ⟨rfl, rfl⟩ := Prod.mk.inj (Option.some.inj q)
      obtain ⟨d1, d2, d3⟩ := M2.done hp
      exact .inl ⟨wst i (by omega), P _ _ _ (x1.trans d1) d2 d3⟩
    · cases q

section
variable {X : Cx} {kx vx tg iter : Expr} {ifs : List Expr} {scope : Scope} {own : List (Str × Nat)} {pos spos py : Pos} {mi : IM} {g : GM} {t : TM} {mk mv : EM} {vs : List Nat}
theorem e_dcomp (G : Good X) (hN : X.N.Nodup) (own : List (Str × Nat)) (hi : PI X tg iter (lI X.w X.K mi)) (ok : BlkOk X.N X.env.scope scope own)
    (hg : ∀ (s : Shared) (H : Hp) (C : Addr) (cl : List (Str × Addr)) (fp : List Addr), PG (X.blk s H scope (compEnvC scope cl C X.env) fp) tg (lG X.w X.K vs g))
    (ht : ∀ (s : Shared) (H : Hp) (C : Addr) (cl : List (Str × Addr)) (fp : List Addr), PTs (X.blk s H scope (compEnvC scope cl C X.env) fp) ifs (lT X.w X.K t))
    (hk : ∀ (s : Shared) (H : Hp) (C : Addr) (cl : List (Str × Addr)) (fp : List Addr), PE (X.blk s H scope (compEnvC scope cl C X.env) fp) kx (lE X.w X.K mk))
    (he : ∀ (s : Shared) (H : Hp) (C : Addr) (cl : List (Str × Addr)) (fp : List Addr), PE (X.blk s H scope (compEnvC scope cl C X.env) fp) vx (lE X.w X.K mv))
    (hv : ∀ i ∈ vs, i ∈ own.map (·.2) := by decide) (hs : ∀ x, foldedSetIterable iter X.env x = pure x := by intro _; rfl) :
    PE X (.DictComp kx vx [⟨tg, iter, ifs, 0⟩] scope pos) (lE X.w X.K (mDComp (own.map (·.2)) mi g t mk mv)) := by
  refine ⟨fun pins s σ H Q I h => ?_⟩
  rw [arm_eval_DictComp]
  refine dx_core G.calm hN I hi ok hg ht hk he hs (dx_read G hv h) fun D C s' m H' I' q hn f => ⟨m, hn, fun h'' sb => ?_⟩
  obtain ⟨_, f1, _, f3, f4, f5⟩ := id f
  exact ⟨.ref D, H', I'.turned (t' := s'.toks) (fun b o hb e => (sb.2 b hb).trans e) f.1 f1 f3 f4 f5, rfl, q⟩
theorem swd_true {y : Str} {l : Nat} {env : PySem.Env} (hk : env.scope.kind = .function) (hy : env.scope.names.lookup y = some .local) (hl : (py.line == pos.line) = true)
    (ha : (scope.names.any fun (n, k) => n == y && (k == .local || k == .cell)) = false) {gs : List Comprehension} : swapsWith (.DictComp kx vx gs scope pos) (some (.Name y py)) l env = pure true := by
  have hb : env.blockKind = .function := by unfold Env.blockKind; rw [hk]; rfl
  have ky : env.kindOf y = some .local := hy
  unfold swapsWith
  simp only [hb, ky, ha, Expr.pos, hl]
  rfl
theorem s_setDcomp (G : Good X) (hN : X.N.Nodup) (i : Nat) {y : Str} (own : List (Str × Nat)) (hi : PI X tg iter (lI X.w X.K mi)) (ok : BlkOk X.N X.env.scope scope own)
    (hg : ∀ (s : Shared) (H : Hp) (C : Addr) (cl : List (Str × Addr)) (fp : List Addr), PG (X.blk s H scope (compEnvC scope cl C X.env) fp) tg (lG X.w X.K vs g))
    (ht : ∀ (s : Shared) (H : Hp) (C : Addr) (cl : List (Str × Addr)) (fp : List Addr), PTs (X.blk s H scope (compEnvC scope cl C X.env) fp) ifs (lT X.w X.K t))
    (hkx : ∀ (s : Shared) (H : Hp) (C : Addr) (cl : List (Str × Addr)) (fp : List Addr), PE (X.blk s H scope (compEnvC scope cl C X.env) fp) kx (lE X.w X.K mk))
    (he : ∀ (s : Shared) (H : Hp) (C : Addr) (cl : List (Str × Addr)) (fp : List Addr), PE (X.blk s H scope (compEnvC scope cl C X.env) fp) vx (lE X.w X.K mv))
    (hy : X.N[i]? = some y := by rfl) (hyl : X.env.scope.names.lookup y = some .local := by rfl) (hk : X.env.scope.kind = .function := by rfl)
    (hl : (py.line == pos.line) = true := by rfl) (hna : (scope.names.any fun (n, k) => n == y && (k == .local || k == .cell)) = false := by rfl)
    (hv : ∀ i ∈ vs, i ∈ own.map (·.2) := by decide) (hs : ∀ x, foldedSetIterable iter X.env x = pure x := by intro _; rfl) :
    PS X (.Assign [.Name y py] (.DictComp kx vx [⟨tg, iter, ifs, 0⟩] scope pos) spos) (lS X.w X.K (sSet i (mDComp (own.map (·.2)) mi g t mk mv))) := by
  refine ⟨fun pins s σ H D I h => ?_⟩
  rw [exec_Assign_Name_used _ _ _ _ (swd_true hk hyl hl hna)]
  refine wpAny_bind (wpAny_standAt (wpAny_bind ?_))
  show wpAny _ X.A (do let _ ← comprehension (.DictComp kx vx [⟨tg, iter, ifs, 0⟩] scope pos) scope X.env (firstIterPos [⟨tg, iter, ifs, 0⟩] pos) newDict false (eval iter X.env) (some (assign (.Name y py) X.env))) _ _ s
  refine wpAny_bind (thn (dx_core (Qf := fun _ s' => SP X pins D .next s') G.calm hN I hi ok hg ht hkx he hs (dx_read G hv (lS_asgE h)) fun L C s' m H' I' q hn f => ?_) fun _ s' hq => wpAny_pure (wpAny_pure hq))
  show wpAny _ _ (assign (.Name y py) X.env (.ref L)) _ _ _
  refine wpAny_assign_Name (store_ok2 (v := V.ref L) I' hN hy (.inl hyl) rfl (fun s2 I2 ⟨a, sb, ha⟩ => ?_) (.inr hyl))
  obtain ⟨_, f1, _, f3, f4, f5⟩ := id f
  have hCa : C ≠ a := ha.elim (fun z => by rw [z]; exact f1) fun z e => f4 y a z e.symm
  exact ⟨m, hn.sameBut sb hCa, fun h3 sb3 => ⟨_, H', I2.turned (t' := s2.toks) (fun b o hb e => (sb3.2 b hb).trans e) f.1 f1 f3 f4 f5, q⟩⟩
end
end VM

/-! VM12: truth, and/or, isinstance, len, sorted, list, tuple -/
namespace VM
open PySem PySem.Spec PyProof.Rows L2

/-! ### truth -/
def truD (S : Store) : D → Option Bool
  | .non => some false
  | .bl b => some b
  | .int i => some (i != 0)
  | .str y => if y.length ≤ lim then some ((y.length : Int) != 0) else none
  | .tup ds => some (!ds.isEmpty)
  | .fz ds => some (!ds.isEmpty)
  | .lst l => match S[l]? with
    | some (.lst ds) => some (!ds.isEmpty)
    | _ => none
  | .dct l => match S[l]? with
    | some (.dct kvs) => some (!kvs.isEmpty)
    | _ => none
  | .pr _ => none
section
variable {prog : Program} {w : World} {K : Type} [DecidableEq K] {knd : HeapKind prog w K} {A : Around} {E : Value → Shared → Prop} {s : Shared}
/-- the truth of a dict whose keys are tuples -/
theorem truthy_keyed {d : Addr} {xs : List (K × Addr × Value)} {Q : Bool → Shared → Prop} (lo : (d == sysModules) = false) (hm : s.heap.DictOfH knd d xs) (hfit : (xs.length : Int) < 2 ^ 63) (h : Q (!xs.isEmpty) { s with toks := s.toks + 1 + 1 }) :
    wpAny (model prog w) A (truthy (.ref d)) Q E s := by
  have hne : ((xs.length : Int) != 0) = !xs.isEmpty := by cases xs <;> simp <;> omega
  have hty : s.TypeIs (.ref d) "dict" := hm.typeIs
  have lenRun : wpAny (model prog w) A (runValue (.builtin "len" ⟨[.ref d], []⟩)) (fun r s' => r = .int xs.length (s.toks + 1) ∧ Q (!xs.isEmpty) s') E s := by
    refine wpAny_runValue (codeAny_builtin entry_len ?_)
    rw [Around.under_plainId plain_len _]
    exact wpAny_mono (wpAny_len_body_dictH (Q := fun r s' => r = .int xs.length (s.toks + 1) ∧ Q (!xs.isEmpty) s') lo hm hfit ⟨rfl, h⟩) (fun fin s' q => by obtain ⟨r, rfl, hq⟩ := q; exact hq) fun _ _ e => e
  unfold truthy
  first
    | refine wpAny_bind (wpAny_callSpecial?_none (name := Str.ofString "__bool__") hty noBool_dict ?_)
    | refine wpAny_bind (wpAny_pure (wpAny_bind (wpAny_callSpecial?_none (name := Str.ofString "__bool__") hty noBool_dict ?_)))
  first
    | refine wpAny_bind (wpAny_specialOf (name := Str.ofString "__len__") hty F.slot_dict_len.lookup ?_)
    | refine wpAny_bind (wpAny_pure (wpAny_bind (wpAny_specialOf (name := Str.ofString "__len__") hty F.slot_dict_len.lookup ?_)))
  first
    | exact wpAny_bind (wpAny_mono lenRun (fun r s' q => by obtain ⟨rfl, hq⟩ := q; exact wpAny_pure (hne ▸ hq)) fun _ _ e => e)
    | exact wpAny_bind (wpAny_pure (wpAny_bind (wpAny_mono lenRun (fun r s' q => by obtain ⟨rfl, hq⟩ := q; exact wpAny_pure (hne ▸ hq)) fun _ _ e => e)))
end
def lTr (w : World) (K : PySem.W.Frag) : V → Hp → (Bool → Hp → Prop) → Prop := fun x H Q => ∃ μ S d k, Rel w K μ H S ∧ RV K μ H x d ∧ truD S d = some k ∧ Q k H
theorem rvs_empty {K : PySem.W.Frag} {μ : List Addr} {H : Hp} {vs : List V} {ds : List D} (r : RVs K μ H vs ds) : (!vs.isEmpty) = !ds.isEmpty := by cases r <;> rfl
theorem paired_empty {α β : Type} {R : α → β → Prop} {xs : List α} {ys : List β} (r : Paired R xs ys) : (!xs.isEmpty) = !ys.isEmpty := by cases r <;> rfl
theorem tru_any {X : Cx} : TruR X (lTr X.w X.K) := by
  intro pins s σ H x v Q I rx h
  obtain ⟨μ, S, d, k, R, r, e, q⟩ := h
  have seqCase : ∀ {a : Addr} {vs : List V} {ds : List D}, x = .ref a → (SqL X.K H a vs ∨ SqT X.K H a vs) → RVs X.K μ H vs ds → k = !ds.isEmpty → wpAny (model X.prog X.w) X.A (truthy v) (TP X pins σ Q) X.xe s := fun {a vs ds} ex hq rs ek =>
    tru_ok pins s σ H x v Q I rx ⟨k, by rw [ex]; exact hq.elim (fun h => .inl ⟨vs, h, by rw [rvs_empty rs]; exact ek⟩) fun h => .inr (.inl ⟨vs, h, by rw [rvs_empty rs]; exact ek⟩), q⟩
  cases r with
  | non => exact tru_ok pins s σ H _ v Q I rx ⟨k, (Option.some.inj e).symm, q⟩
  | bl b => exact tru_ok pins s σ H _ v Q I rx ⟨k, (Option.some.inj e).symm, q⟩
  | int i => exact tru_ok pins s σ H _ v Q I rx ⟨k, (Option.some.inj e).symm, q⟩
  | str y =>
    unfold truD at e
    dsimp only at e
    split at e
    · rename_i hy
      have := lim_le
      exact tru_ok pins s σ H _ v Q I rx ⟨k, ⟨by omega, (Option.some.inj e).symm⟩, q⟩
    · cases e
  | pr _ _ => cases e
  | tup hq rs => exact seqCase rfl (.inr hq.sq) rs (Option.some.inj e).symm
  | fz hq rs => exact seqCase rfl (.inl hq.sq) rs (Option.some.inj e).symm
  | @lst a l hl =>
    unfold truD at e
    dsimp only at e
    split at e
    · rename_i ds hS
      obtain ⟨a', vs, q1, q2, q3, q4⟩ := rv_list R (.lst hl) hS
      cases q1
      exact seqCase rfl (.inl (.inl (.inl q3))) q4 (Option.some.inj e).symm
    · cases e
  | @dct a l hl =>
    unfold truD at e
    dsimp only at e
    split at e
    · rename_i kvs hS
      obtain ⟨a', h1, ro⟩ := R.ob _ _ hS
      rw [hl] at h1
      obtain rfl := Option.some.inj h1
      cases rx
      have hz := ro_len ro.ror
      have hlim := line63
      obtain ⟨_, _, d3⟩ := dview I ro.ror
      obtain rfl := Option.some.inj e
      rcases d3 with ⟨al, lk, hd, p⟩ | ⟨al, xs, hd, p⟩
      · have hl2 := p.length
        exact wpAny_truthy_dict (ro_sys ro.ror) hd (by omega) ⟨H, I.tok _, by rw [paired_empty p]; exact q⟩
      · have hl2 := p.length
        exact truthy_keyed (ro_sys ro.ror) hd (by omega) ⟨H, I.tok _, by rw [paired_empty p]; exact q⟩
    · cases e
def tTr (me : EM) : TM := fun ρ => bnd (me ρ) fun d S => (truD S d).map fun k => (k, S)
def mOr (ma mb : EM) : EM := fun ρ => bnd (ma ρ) fun d S => match truD S d with
  | some true => some (d, S)
  | some false => mb ρ S
  | none => none
def mAnd (ma mb : EM) : EM := fun ρ => bnd (ma ρ) fun d S => match truD S d with
  | some false => some (d, S)
  | some true => mb ρ S
  | none => none
def mNot (ma : EM) : EM := fun ρ => bnd (ma ρ) fun d S => (truD S d).map fun k => (.bl (!k), S)
section
variable {X : Cx} {a b : Expr} {ma mb : EM} {rest : List Expr} {pos : Pos}
/-- a value, and that it stands for d -/
theorem run_val {m : EM} {pins : List (Addr × Obj)} {s : Shared} {σ : L2.St} {H : Hp} {μ : List Addr} {S S1 : Store} {ρ : Env} {d : D} (ha : PE X a (lE X.w X.K m)) (I : Inv X pins σ H s) (R : Rel X.w X.K μ H S) (E : RE X.K μ H σ ρ) (e : m ρ S = some (d, S1)) :
    wpAny (model X.prog X.w) X.A (eval a X.env) (fun u s1 => ∃ v H1 μ1, Inv X pins σ H1 s1 ∧ RelV v u ∧ Ext μ H μ1 H1 ∧ Rel X.w X.K μ1 H1 S1 ∧ RV X.K μ1 H1 v d) X.xe s :=
  thn (ha.run pins s σ H (fun v H1 => ∃ μ1, Ext μ H μ1 H1 ∧ Rel X.w X.K μ1 H1 S1 ∧ RV X.K μ1 H1 v d) I ⟨μ, S, ρ, d, S1, R, E, e, fun μ1 H1 v x1 R1 r1 => ⟨μ1, x1, R1, r1⟩⟩) fun u s1 ⟨v, H1, I1, rv, μ1, x1, R1, r1⟩ => ⟨v, H1, μ1, I1, rv, x1, R1, r1⟩
theorem t_tru (ha : PE X a (lE X.w X.K ma)) (he : ∀ whole, isTrue a X.env whole = (do let v ← whole; standAt a.pos; holding [v] (truthy v)) := by intro _; rfl) : PT X a (lT X.w X.K (tTr ma)) := by
  refine ⟨fun pins s σ H Q I h => ?_⟩
  obtain ⟨μ, S, ρ, k, S', R, E, e, P⟩ := h
  obtain ⟨d, S1, e1, e2⟩ := bnd_some e
  obtain ⟨k', e3, e4⟩ := Option.map_eq_some_iff.mp e2
  obtain ⟨rfl, rfl⟩ := Prod.mk.inj e4
  refine isTrue_plain (thn (run_val ha I R E e1) fun v s1 ⟨x, H1, μ1, I1, rv, x1, R1, r1⟩ => ?_) (he _)
  exact tru_any pins s1 σ H1 x v Q I1 rv ⟨μ1, _, d, k', R1, r1, e3, P μ1 H1 x1 R1⟩
theorem e_not (ha : PE X a (lE X.w X.K ma)) : PE X (.UnaryOp .Not a pos) (lE X.w X.K (mNot ma)) := by
  refine ⟨fun pins s σ H Q I h => ?_⟩
  obtain ⟨μ, S, ρ, d0, S', R, E, e, P⟩ := h
  obtain ⟨d, S1, e1, e2⟩ := bnd_some e
  obtain ⟨k', e3, e4⟩ := Option.map_eq_some_iff.mp e2
  obtain ⟨rfl, rfl⟩ := Prod.mk.inj e4
  refine UnaryOp_ (thn (run_val ha I R E e1) fun v s1 ⟨x, H1, μ1, I1, rv, x1, R1, r1⟩ => ?_)
  exact not_of (thn (tru_any pins s1 σ H1 x v (fun c H2 => Q (.bl (!c)) H2) I1 rv ⟨μ1, _, d, k', R1, r1, e3, P μ1 H1 _ x1 R1 (.bl _)⟩) fun c s2 ⟨H2, I2, q2⟩ => ⟨.bl (!c), H2, I2, rfl, q2⟩)
theorem e_or (ha : PE X a (lE X.w X.K ma)) (hb : PE X (.BoolOp .Or (b :: rest) pos) (lE X.w X.K mb)) : PE X (.BoolOp .Or (a :: b :: rest) pos) (lE X.w X.K (mOr ma mb)) := by
  refine ⟨fun pins s σ H Q I h => ?_⟩
  obtain ⟨μ, S, ρ, d0, S', R, E, e, P⟩ := h
  obtain ⟨d, S1, e1, e2⟩ := bnd_some e
  refine BoolOp_or (thn (run_val ha I R E e1) fun v s1 ⟨x, H1, μ1, I1, rv, x1, R1, r1⟩ => ?_)
  cases e3 : truD S1 d with
  | none => rw [e3] at e2; cases e2
  | some k =>
    rw [e3] at e2
    refine thn (tru_any pins s1 σ H1 x v (fun c H2 => c = k ∧ H2 = H1) I1 rv ⟨μ1, S1, d, k, R1, r1, e3, rfl, rfl⟩) fun c s2 ⟨H2, I2, q1, q2⟩ => ?_
    subst q1 q2
    cases c with
    | true =>
      obtain ⟨rfl, rfl⟩ := Prod.mk.inj (Option.some.inj e2)
      exact ⟨x, _, I2, rv, P μ1 _ x x1 R1 r1⟩
    | false => exact hb.run pins s2 σ _ Q I2 ⟨μ1, S1, ρ, d0, S', R1, E.mono x1, e2, P.step x1⟩
theorem e_and (ha : PE X a (lE X.w X.K ma)) (hb : PE X (.BoolOp .And (b :: rest) pos) (lE X.w X.K mb)) : PE X (.BoolOp .And (a :: b :: rest) pos) (lE X.w X.K (mAnd ma mb)) := by
  refine ⟨fun pins s σ H Q I h => ?_⟩
  obtain ⟨μ, S, ρ, d0, S', R, E, e, P⟩ := h
  obtain ⟨d, S1, e1, e2⟩ := bnd_some e
  refine BoolOp_and (thn (run_val ha I R E e1) fun v s1 ⟨x, H1, μ1, I1, rv, x1, R1, r1⟩ => ?_)
  cases e3 : truD S1 d with
  | none => rw [e3] at e2; cases e2
  | some k =>
    rw [e3] at e2
    refine thn (tru_any pins s1 σ H1 x v (fun c H2 => c = k ∧ H2 = H1) I1 rv ⟨μ1, S1, d, k, R1, r1, e3, rfl, rfl⟩) fun c s2 ⟨H2, I2, q1, q2⟩ => ?_
    subst q1 q2
    cases c with
    | false =>
      obtain ⟨rfl, rfl⟩ := Prod.mk.inj (Option.some.inj e2)
      exact ⟨x, _, I2, rv, P μ1 _ x x1 R1 r1⟩
    | true => exact hb.run pins s2 σ _ Q I2 ⟨μ1, S1, ρ, d0, S', R1, E.mono x1, e2, P.step x1⟩
/-- the last one -/
theorem e_or1 (ha : PE X a (lE X.w X.K ma)) : PE X (.BoolOp .Or [a] pos) (lE X.w X.K ma) := ⟨fun pins s σ H Q I h => ha.run pins s σ H Q I h⟩
theorem e_and1 (ha : PE X a (lE X.w X.K ma)) : PE X (.BoolOp .And [a] pos) (lE X.w X.K ma) := ⟨fun pins s σ H Q I h => ha.run pins s σ H Q I h⟩
end

/-! ### isinstance(x, T), T a built-in type -/
def tyD : D → Option String
  | .non => some "NoneType"
  | .bl _ => some "bool"
  | .int _ => some "int"
  | .str _ => some "str"
  | .tup _ => some "tuple"
  | .fz _ => some "list"
  | .lst _ => some "list"
  | .dct _ => none
  | .pr _ => none
def isiM (n : String) (S : Store) (d : D) : Option Bool := match d with
  | .lst l => match S[l]? with
    | some (.lst _) => kitB "list" n
    | _ => none
  | d => match tyD d with
    | some t => kitB t n
    | none => none
def mIsi (n : String) (me : EM) : EM := fun ρ => bnd (me ρ) fun d S => (isiM n S d).map fun b => (.bl b, S)
section
variable {X : Cx}
theorem tyx_of {w : World} {K : PySem.W.Frag} {μ : List Addr} {H : Hp} {S : Store} {v : V} {d : D} {n : String} {b : Bool} (R : Rel w K μ H S) (r : RV K μ H v d) (h : isiM n S d = some b) : ∃ t, TyX K H v (.type t) ∧ kitB t n = some b := by
  cases r with
  | non => exact ⟨_, .base .non, h⟩
  | bl k => exact ⟨_, .base (.bl k), h⟩
  | int i => exact ⟨_, .base (.int i), h⟩
  | str y => exact ⟨_, .base (.str y), h⟩
  | tup hq _ =>
    refine ⟨"tuple", ?_, h⟩
    rcases hq with ⟨o, hq, _⟩ | ⟨o, its, n, hq, hc, _⟩
    · exact .fTuple hq
    · exact .kTuple hq hc
  | fz hq _ =>
    refine ⟨"list", ?_, h⟩
    rcases hq with ⟨o, hq⟩ | ⟨o, its, n, hq, hc, _⟩
    · exact .base (.frz hq)
    · exact .kList hq hc
  | @lst a l hl =>
    unfold isiM at h
    dsimp only at h
    split at h
    · rename_i ds hS
      obtain ⟨a', vs, q1, q2, q3, q4⟩ := rv_list R (.lst hl) hS
      cases q1
      exact ⟨"list", .base (.lst q3), h⟩
    · cases h
  | dct _ => cases h
  | pr _ _ => cases h
theorem e_isi {e : Expr} {me : EM} {T : Str} {n : String} {p p2 pos : Pos} (he : PE X e (lE X.w X.K me)) (hm : X.mg "isinstance" = none) (hmT : X.mg T = none) (hg : Gl X "isinstance" := by rfl) (hgT : Gl X T := by rfl) (hvT : bootBuiltins T = some (.type n) := by decide +kernel)
    (hnT : T ≠ "__name__" := by decide) (hdT : (T == ("__debug__" : Str)) = false := by decide) (hs1 : starEach [e, .Name T p2] X.env = (false, eval e X.env) :: starEach [.Name T p2] X.env := by rfl) (hs2 : starEach [.Name T p2] X.env = (false, eval (.Name T p2) X.env) :: starEach [] X.env := by rfl)
    (hpl : (backTo pos (starEach [.Name T p2] X.env)).any (·.1) = false := by rfl) : PE X (.Call (.Name "isinstance" p) [e, .Name T p2] [] pos) (lE X.w X.K (mIsi n me)) :=
  pe_imp (pe_callB call_isi hg hm (by decide +kernel) (pa_cons he (pa_cons (pe_bltn (v := .ty n) hgT hmT hvT rfl hnT hdT) pa_nil hs2) hs1) (he := hs1) (hpl := hpl)) fun σ H Q h => by
    obtain ⟨μ, S, ρ, d0, S', R, E, e0, P⟩ := h
    obtain ⟨d, S1, e1, e2⟩ := bnd_some e0
    obtain ⟨k, e3, e4⟩ := Option.map_eq_some_iff.mp e2
    obtain ⟨rfl, rfl⟩ := Prod.mk.inj e4
    refine ⟨μ, S, ρ, d, S1, R, E, e1, fun μ1 H1 v x1 R1 r1 => ?_⟩
    obtain ⟨t, q1, q2⟩ := tyx_of R1 r1 e3
    exact ⟨v, .ty n, .type t, .type n, k, rfl, .ty n, q1, kit_ty q2, P μ1 H1 _ x1 R1 (.bl _)⟩
end
end VM

/-! VM13: sorted, len, list, {} -/
namespace VM
open PySem PySem.Spec PyProof.Rows L2
open PySem.W (EachIs dataLe)

def keysD (kvs : KV') : List D := kvs.map fun kv => keyD kv.1
/-- what list(x), sorted(x) go along -/
def rowOf (S : Store) (d : D) : Option (List D) := match d with
  | .dct l => match S[l]? with
    | some (.dct kvs) => some (keysD kvs)
    | _ => none
  | d => seqOf S d
def encD (S : Store) (d : D) : PyData := (D.py S 9 d).getD .none
def isTup1 : PyData → Bool
  | .tuple (_ :: _) => true
  | _ => false
def isPlain : PyData → Bool
  | .none => false
  | .tuple _ => false
  | _ => true
def sortOk (ps : List PyData) : Bool := (ps.all fun p => ps.all fun q => PySem.W.alike p q) && (ps.all isTup1 || ps.all isPlain)
noncomputable def sortD (S : Store) (ds : List D) : Option (List D) := if ds.all (fun d => (D.py S 9 d).isSome) && sortOk (ds.map (encD S)) && decide (ds.length ≤ lim) then some (ds.mergeSort (dataLe false (encD S))) else none
noncomputable def fSorted : List D → M D
  | [x] => fun S => match rowOf S x with
    | some ds => (sortD S ds).map fun es => (.lst S.length, S ++ [.lst es])
    | none => none
  | _ => fail

theorem sortOk_of {ps : List PyData} (h : sortOk ps = true) : PySem.W.AllAlike ps ∧ PySem.W.Sortable ps := by
  unfold sortOk at h
  rw [Bool.and_eq_true, List.all_eq_true, Bool.or_eq_true, List.all_eq_true, List.all_eq_true] at h
  obtain ⟨h1, h2⟩ := h
  refine ⟨fun d hd d' hd' => List.all_eq_true.mp (h1 d hd) d' hd', h2.imp (fun h d hd => ?_) fun h d hd => ?_⟩
  · have q := h d hd
    cases d with
    | tuple xs =>
      cases xs with
      | nil => cases q
      | cons x r => exact ⟨x, r, rfl⟩
    | _ => cases q
  · have q := h d hd
    cases d with
    | none => cases q
    | tuple xs => cases q
    | _ => exact ⟨(fun z => by cases z), fun xs z => by cases z⟩
mutual
theorem reads_there {h : Heap} : ∀ {v : Value} {p : PyData} {as : List Addr}, Reads h v p as → ∀ b ∈ as, b < h.objs.size
  | _, _, _, .none, _, hb => by cases hb
  | _, _, _, .bool _, _, hb => by cases hb
  | _, _, _, .int _ _, _, hb => by cases hb
  | _, _, _, .str _ _, _, hb => by cases hb
  | _, _, _, .list h1 _ _ h4, b, hb => by
    rcases List.mem_cons.mp hb with e | hb
    · rw [e]; exact Heap.lt_size h1
    · exact readsAll_there h4 b hb
  | _, _, _, .tuple _ _ _ h4, b, hb => readsAll_there h4 b hb
  | _, _, _, .dict h1 _ _ h4 h5, b, hb => by
    rcases List.mem_append.mp hb with hb | hb
    · rcases List.mem_cons.mp hb with e | hb
      · rw [e]; exact Heap.lt_size h1
      · exact readsAll_there h4 b hb
    · exact readsAll_there h5 b hb
theorem readsAll_there {h : Heap} : ∀ {vs : List Value} {ps : List PyData} {as : List Addr}, ReadsAll h vs ps as → ∀ b ∈ as, b < h.objs.size
  | _, _, _, .nil, _, hb => by cases hb
  | _, _, _, .cons h1 h2, b, hb => (List.mem_append.mp hb).elim (reads_there h1 b) (readsAll_there h2 b)
end
section
variable {X : Cx} {pins : List (Addr × Obj)} {σ : L2.St} {H : Hp} {s : Shared} {μ : List Addr} {S : Store}
theorem each_of {K : PySem.W.Frag} {R : Value → D → Prop} (hR : ∀ (x : V) (v : Value) (d : D), RelV x v → RV K μ H x d → R v d) : ∀ {xs : List V} {vs : List Value} {ds : List D}, Vals xs vs → RVs K μ H xs ds → EachIs R vs ds
  | _, _, _, .nil, .nil => .nil
  | _, _, _, .cons h t, .cons h' t' => .cons (hR _ _ _ h h') (each_of hR t t')
theorem of_each {K : PySem.W.Frag} : ∀ {vs : List Value} {ds : List D}, EachIs (fun v d => ∃ x, RelV x v ∧ RV K μ H x d) vs ds → ∃ xs, Vals xs vs ∧ RVs K μ H xs ds
  | _, _, .nil => ⟨[], .nil, .nil⟩
  | _, _, .cons ⟨x, h1, h2⟩ t => by
    obtain ⟨xs, h3, h4⟩ := of_each t
    exact ⟨x :: xs, .cons h1 h3, .cons h2 h4⟩
theorem each_mem2 {α β : Type} {R : α → β → Prop} {P : β → Prop} : ∀ {as : List α} {bs : List β}, EachIs R as bs → (∀ b ∈ bs, P b) → EachIs (fun a b => R a b ∧ P b) as bs
  | _, _, .nil, _ => .nil
  | _, _, .cons h t, hp => .cons ⟨h, hp _ List.mem_cons_self⟩ (each_mem2 t fun b hb => hp b (List.mem_cons_of_mem _ hb))
theorem py_some {d : D} (h : (D.py S 9 d).isSome = true) : D.py S 9 d = some (encD S d) := by
  obtain ⟨p, e⟩ := Option.isSome_iff_exists.mp h
  unfold encD
  rw [e]
  rfl
/-- a new list of these values, sorted -/
theorem sort_made (G : Good X) (I : Inv X pins σ H s) (R : Rel X.w X.K μ H S) {xs : List V} {vs : List Value} {ds es : List D} (hv : Vals xs vs) (rs : RVs X.K μ H xs ds) (h : sortD S ds = some es) {A : Around} (hA : A.units + 100 < cLine) {E : Value → Shared → Prop} {Q : VK} (P : Post X.w X.K μ H (S ++ [.lst es]) (.lst S.length) Q) :
    wpAny (model X.prog X.w) A (call (.builtin "list.sort") [.ref s.heap.objs.size]) (fun _ s' => EP X pins σ Q (.ref s.heap.objs.size) s') E { s with heap := s.heap.push { cls := .type "list", data := .seq vs.toArray } } := by
  unfold sortD at h
  split at h
  · rename_i hc
    obtain rfl := Option.some.inj h
    rw [Bool.and_eq_true, Bool.and_eq_true, List.all_eq_true, decide_eq_true_eq] at hc
    obtain ⟨⟨c1, c2⟩, c3⟩ := hc
    obtain ⟨al, so⟩ := sortOk_of c2
    have hlim := lim_le
    have hn : H s.heap.objs.size = none := I.hok.fresh (Nat.le_refl _)
    have hlen : vs.length = ds.length := by rw [← hv.length, rs.length]
    have hob : ((s.heap.push { cls := .type "list", data := .seq vs.toArray })).get? s.heap.objs.size = some (seqObj "list" vs.toArray 0) := Heap.get?_push_size _ rfl
    have I2 : Inv X pins σ (upd H s.heap.objs.size (.lst xs)) { s with heap := s.heap.push { cls := .type "list", data := .seq vs.toArray } } :=
      I.laid (t' := s.toks) (fun b o e => Heap.get?_push_of_some _ e) (Nat.le_refl _) ⟨by rw [rs.length]; omega, vs, 0, hv, hob⟩
    have kp : ∀ b o, s.heap.get? b = some o → (s.heap.push { cls := .type "list", data := .seq vs.toArray }).get? b = some o := fun b o e => Heap.get?_push_of_some _ e
    have rd : EachIs (fun v d => (∃ x, RelV x v ∧ RV X.K μ H x d) ∧ (D.py S 9 d).isSome = true) vs ds := each_mem2 (each_of (fun x v d q1 q2 => ⟨x, q1, q2⟩) hv rs) c1
    refine PySem.W.list_sort_data (R := fun v d => ∃ x, RelV x v ∧ RV X.K μ H x d) (bs := ds) (enc := encD S) hob (rd.mono fun _ _ q => q.1) (rd.mono fun v d q => ?_) al so (by omega) (fun b hb => ?_) fun out ho eo => ?_
    · obtain ⟨⟨x, q1, q2⟩, q3⟩ := q
      obtain ⟨as, rdx⟩ := Dp.reads I _ x v (py_dp R (py_some q3) q2) q1
      exact ⟨as, PyProof.Rows.Reads.keeps kp rdx, fun hm => Nat.lt_irrefl _ (reads_there rdx _ hm)⟩
    · have := (py_lay (py_some (c1 b hb))).2
      omega
    · obtain ⟨ys, r1, r2⟩ := of_each eo
      obtain ⟨ep, he'⟩ := PyProof.Rows.sortedHeap_at (vs := vs) (out := List.toArray out) hob
      have hl2 : ys.length ≤ sizeLine := by rw [r1.length, ho]; omega
      have I3 := I2.write (e := s.heap.objs.size) (t' := s.toks) (x := s.heap.objs.size) (o := .lst ys) (h' := sortedHeap (s.heap.push { cls := .type "list", data := .seq vs.toArray }) s.heap.objs.size vs (List.toArray out)) (by rw [upd_same]; trivial) (.inl rfl)
        (fun b u hb hu => by rw [PyProof.Rows.sortedHeap_old hb (Heap.lt_size hu)]; exact hu) ⟨_, he'⟩ ⟨hl2, out, ep, r1, by simpa using he'⟩
      have eH : upd (upd H s.heap.objs.size (.lst xs)) s.heap.objs.size (.lst ys) = upd H s.heap.objs.size (.lst ys) := by
        funext b
        by_cases hb : b = s.heap.objs.size
        · rw [hb, upd_same, upd_same]
        · rw [upd_ne hb, upd_ne hb, upd_ne hb]
      rw [eH] at I3
      exact ⟨.ref s.heap.objs.size, _, I3, rfl, post_list R hn r2 P⟩
  · cases h
end

/-! ### what is collected -/
section
variable {X : Cx} {pins : List (Addr × Obj)} {σ : L2.St} {H : Hp} {s : Shared} {μ : List Addr} {S : Store}
theorem ents_keys {w : World} {K : PySem.W.Frag} {ents : List DictEntry} {kvs : KV'} (h : Paired (EntOk w K μ H) ents kvs) : ∃ xs, Vals xs (ents.map (·.key)) ∧ RVs K μ H xs (keysD kvs) := by
  induction h with
  | nil => exact ⟨[], .nil, .nil⟩
  | cons h t ih =>
    obtain ⟨xs, h1, h2⟩ := ih
    obtain ⟨_, ⟨v, h3, h4⟩, _⟩ := h
    exact ⟨v :: xs, .cons h3 h1, .cons h4 h2⟩
theorem items_key {es : Array DictEntry} {acc : Array Value} (h : ItemsOf (fun i v => ∃ hi : i < es.size, v = es[i].key) acc es.size) : acc.toList = es.toList.map (·.key) := by
  refine List.ext_getElem? fun i => ?_
  by_cases hi : i < es.size
  · have ha : i < acc.size := by rw [h.1]; exact hi
    obtain ⟨_, e⟩ := h.2 i acc[i] (Array.getElem?_eq_getElem ha)
    rw [Array.getElem?_toList, Array.getElem?_eq_getElem ha, e, List.getElem?_map, Array.getElem?_toList, Array.getElem?_eq_getElem hi]
    rfl
  · rw [List.getElem?_eq_none (by rw [Array.length_toList, h.1]; omega), List.getElem?_eq_none (by rw [List.length_map, Array.length_toList]; omega)]
theorem row_dict {w : World} {K : PySem.W.Frag} (R : Rel w K μ H S) {v : V} {l : Nat} {ds : List D} (r : RV K μ H v (.dct l)) (h : rowOf S (.dct l) = some ds) : ∃ a kvs, v = .ref a ∧ μ[l]? = some a ∧ S[l]? = some (.dct kvs) ∧ ds = keysD kvs ∧ RO w K μ H a (.dct kvs) := by
  cases r with
  | @dct a _ hl =>
    unfold rowOf at h
    dsimp only at h
    split at h
    · rename_i kvs hS
      obtain rfl := Option.some.inj h
      obtain ⟨a', h1, ro⟩ := R.ob _ _ hS
      rw [hl] at h1
      obtain rfl := Option.some.inj h1
      exact ⟨a, kvs, rfl, hl, hS, rfl, ro⟩
    · cases h
theorem dφ_raw {a : Addr} {ents : List DictEntry} {h : Heap} (q : dφ a ents h) : ∃ es ep, h.DictRaw a es ep ∧ es.toList = ents := let ⟨o, es, ep, h1, h2, h3, h4⟩ := q; ⟨es, ep, ⟨o, h1, h2, h3⟩, h4⟩
theorem ro_ents (I : Inv X pins σ H s) {a : Addr} {kvs : KV'} (ro : RO X.w X.K μ H a (.dct kvs)) : ∃ es ep, s.heap.DictRaw a es ep ∧ es.size = kvs.length ∧ es.size ≤ sizeLine ∧ ∃ xs, Vals xs (es.toList.map (·.key)) ∧ RVs X.K μ H xs (keysD kvs) := by
  obtain ⟨_, hz, _, _, _, ents, hH, hp⟩ := ro
  obtain ⟨q, _⟩ := (show (dφ a ents) s.heap ∧ _ from I.hok a _ hH)
  obtain ⟨es, ep, h1, h2⟩ := dφ_raw q
  have hl : es.size = kvs.length := by
    have := hp.length
    rw [← h2, Array.length_toList] at this
    exact this
  exact ⟨es, ep, h1, hl, by omega, by rw [h2]; exact ents_keys hp⟩
/-- the items of a list, a tuple, a dict (its keys) -/
theorem collect_row (I : Inv X pins σ H s) (R : Rel X.w X.K μ H S) {v : V} {u : Value} {d : D} {ds : List D} (ru : RelV v u) (r : RV X.K μ H v d) (h : rowOf S d = some ds) {A : Around} (hh : A.handled = none) {E : Value → Shared → Prop} {Q : List Value → Shared → Prop}
    (q : ∀ h' tk xs vs, Inv X pins σ H { s with heap := h', toks := tk } → Vals xs vs → RVs X.K μ H xs ds → vs.length ≤ sizeLine → Q vs { s with heap := h', toks := tk }) : wpAny (model X.prog X.w) A (collect u) Q E s := by
  cases d with
  | dct l =>
    obtain ⟨a, kvs, rfl, hl, hS, rfl, ro⟩ := row_dict R r h
    cases ru
    obtain ⟨es, ep, h1, h2, h3, xs, h4, h5⟩ := ro_ents I ro
    refine PySem.W.kdu_collect (PySem.KdlSrc.rawDict (ro_sys ro.ror)) hh h1 h3 fun h' tk acc hk hi => ?_
    have e := items_key hi
    exact q h' tk xs acc.toList (I.kept hk) (by rw [e]; exact h4) h5 (by rw [Array.length_toList, hi.1]; exact h3)
  | _ =>
    obtain ⟨a, vs, rfl, hq, rs⟩ := rv_seq R r (show seqOf S _ = some ds from h)
    cases ru
    rcases hq with hq | hq
    · obtain ⟨its, rv, ⟨o, n, p1, p2, p3, p4⟩, hz⟩ := I.list hq
      have hz2 : its.length ≤ sizeLine := by rw [← rv.length]; exact hz
      exact PySem.wpAny_collect_seq a (T := "list") (.inl rfl) p1 p2 p4 (fun h' hk => q h' s.toks vs its (I.kept (t' := s.toks) hk) rv rs hz2) (by rw [List.size_toArray]; exact hz2)
    · obtain ⟨its, rv, ⟨o, p1, p2, n, p3⟩, hz⟩ := I.tuple hq
      have hz2 : its.length ≤ sizeLine := by rw [← rv.length]; exact hz
      exact PySem.wpAny_collect_seq a (T := "tuple") (.inr rfl) p1 p2 p3 (fun h' hk => q h' s.toks vs its (I.kept (t' := s.toks) hk) rv rs hz2) (by rw [List.size_toArray]; exact hz2)
theorem c_sorted (G : Good X) : CallR X (.builtin "sorted") (lRs X.w X.K fSorted) := by
  intro pins s σ H xs us Q I r h
  obtain ⟨μ, S, ds, d, S', R, rs, e0, P⟩ := h
  obtain ⟨x, rfl, e⟩ : ∃ x, ds = [x] ∧ (match rowOf S x with
    | some ds => (sortD S ds).map fun es => (D.lst S.length, S ++ [.lst es])
    | none => none) = some (d, S') := by
    match ds, e0 with
    | [x], e => exact ⟨x, rfl, e⟩
  obtain ⟨v, rfl, rv⟩ := rvs1 rs
  split at e
  · rename_i ds hrow
    obtain ⟨es, h1, h2⟩ := Option.map_eq_some_iff.mp e
    obtain ⟨rfl, rfl⟩ := Prod.mk.inj h2
    obtain ⟨u, rfl, hv⟩ := Vals.one r
    have hu := room100 G
    refine Calls.call_function_entry kind_sorted plain_sorted entry_sorted (args_sorted1 _) ?_
    unfold Builtin.«sorted»
    refine wpAny_bind (m := checkCount "sorted" 1 1 _) (wpAny_pure ?_)
    refine wpAny_bind (collect_row I R hv rv hrow (A := X.A.in1) (I.ok.hd G.calm) fun h' tk xs vs I' q1 q2 q3 => ?_)
    refine wpAny_bind (wpAny_newList ?_ q3)
    refine wpAny_bind (wpAny_holding (wpAny_mono (sort_made G I' R q1 q2 h1 (A := X.A.in1) (by rw [Around.in1_units]; have := G.un; omega) P) (fun _ s' x => ?_) fun _ _ e => e))
    exact wpAny_pure ⟨_, rfl, x⟩
  · cases e
end
end VM

/-! VM14: len and list of any, {}, list(range(..)), tuple(range(..)), repr -/
namespace VM
open PySem PySem.Spec PyProof.Rows L2

def fLenA : List D → M D
  | [d] => match d with
    | .dct l => fun S => match S[l]? with
      | some (.dct kvs) => some (.int kvs.length, S)
      | _ => none
    | d => fLen [d]
  | _ => fail
def fListA : List D → M D
  | [d] => match d with
    | .dct l => fun S => (rowOf S (.dct l)).map fun ds => (.lst S.length, S ++ [.lst ds])
    | d => fList [d]
  | _ => fail
def mDict0 : EM := fun _ => mkD []
def fRepr : List D → M D
  | [d] => fun S => match d with
    | .tup _ | .fz _ | .lst _ => match D.py S 9 d with
      | some p => if p.showable = true ∧ p.hasDict = false ∧ p.shown.length ≤ lim then some (.str p.shown, S) else none
      | none => none
    | _ => none
  | _ => fail
section
variable {X : Cx}
theorem c_lenA : CallR X (.builtin "len") (lRs X.w X.K fLenA) := by
  intro pins s σ H xs us Q I r h
  obtain ⟨μ, S, ds, d, S', R, rs, e, P⟩ := h
  unfold fLenA at e
  split at e
  · split at e
    · rename_i l
      split at e
      · rename_i kvs hS
        obtain ⟨rfl, rfl⟩ := Prod.mk.inj (Option.some.inj e)
        obtain ⟨v, rfl, rv⟩ := rvs1 rs
        cases rv with
        | @dct a _ hl =>
          obtain ⟨a', h1, ro⟩ := R.ob _ _ hS
          rw [hl] at h1
          obtain rfl := Option.some.inj h1
          obtain ⟨u, rfl, hv⟩ := Vals.one r
          cases hv
          have hz := ro_len ro.ror
          have hl63 := line63
          obtain ⟨_, _, d3⟩ := dview I ro.ror
          rcases d3 with ⟨al, lk, hd, p⟩ | ⟨al, xs, hd, p⟩
          · have hl2 := p.length
            refine call_len_dict (ro_sys ro.ror) hd (by omega) ?_
            rw [hl2]
            exact ⟨.int _, H, I.tok _, ⟨_, rfl⟩, post_val R (.int _) P⟩
          · have hl2 := p.length
            refine call_len_dictH (ro_sys ro.ror) hd (by omega) ?_
            rw [hl2]
            exact ⟨.int _, H, I.tok _, ⟨_, rfl⟩, post_val R (.int _) P⟩
      · cases e
    · exact c_len pins s σ H xs us Q I r ⟨μ, S, _, d, S', R, rs, e, P⟩
  · cases e
theorem c_listA (G : Good X) : CallR X (.type "list") (lRs X.w X.K fListA) := by
  intro pins s σ H xs us Q I r h
  obtain ⟨μ, S, ds, d, S', R, rs, e, P⟩ := h
  unfold fListA at e
  split at e
  · split at e
    · rename_i l
      obtain ⟨ds, h1, h2⟩ := Option.map_eq_some_iff.mp e
      obtain ⟨rfl, rfl⟩ := Prod.mk.inj h2
      obtain ⟨v, rfl, rv⟩ := rvs1 rs
      obtain ⟨a, kvs, rfl, hl, hS, rfl, ro⟩ := row_dict R rv h1
      obtain ⟨u, rfl, hv⟩ := Vals.one r
      cases hv
      obtain ⟨es, ep, q1, q2, q3, xs, q4, q5⟩ := ro_ents I ro
      refine PySem.W.kdl_call (KdlSrc.rawDict (ro_sys ro.ror)) (I.ok.hd G.calm) q1 q3 fun h' tk acc c' hk he hi => ?_
      have ek := items_key hi
      have hlen : xs.length ≤ sizeLine := by rw [q4.length, List.length_map, Array.length_toList]; exact q3
      have hn : H s.heap.objs.size = none := I.hok.fresh (Nat.le_refl _)
      exact ⟨.ref s.heap.objs.size, upd H s.heap.objs.size (.lst xs), I.laid hk (Nat.le_refl _) ⟨hlen, acc.toList, c', by rw [ek]; exact q4, by simpa using he⟩, rfl, post_list R hn q5 P⟩
    · exact c_list pins s σ H xs us Q I r ⟨μ, S, _, d, S', R, rs, e, P⟩
  · cases e
theorem e_dict0 {pos : Pos} : PE X (.Dict [] [] pos) (lE X.w X.K mDict0) := by
  refine ⟨fun pins s σ H Q I h => ?_⟩
  obtain ⟨μ, S, ρ, d, S', R, E, e, P⟩ := h
  obtain ⟨rfl, rfl⟩ := Prod.mk.inj (Option.some.inj e)
  have hn : H s.heap.objs.size = none := I.hok.fresh (Nat.le_refl _)
  have lo : (s.heap.objs.size == sysModules) = false := beq_eq_false_iff_ne.mpr (Ne.symm (Nat.ne_of_lt I.big))
  exact wpAny_Dict_empty ⟨.ref s.heap.objs.size, upd H s.heap.objs.size (.ext (dφ s.heap.objs.size [])), I.laid (t' := s.toks) (fun _ _ q => Heap.get?_push_of_some _ q) (Nat.le_refl _) (dφ_empty s.heap), rfl,
    post_alloc R hn (ro_nil lo upd_same) (.dct (pl_last R)) P⟩
theorem c_repr (G : Good X) : CallR X (.builtin "repr") (lRs X.w X.K fRepr) := by
  intro pins s σ H xs us Q I r h
  obtain ⟨μ, S, ds, d, S', R, rs, e0, P⟩ := h
  obtain ⟨x, p, rfl, hx, hp, hs, hd, hl, rfl, rfl⟩ : ∃ x p, ds = [x] ∧ ((∃ es, x = .tup es) ∨ (∃ es, x = .fz es) ∨ ∃ l, x = .lst l) ∧ D.py S 9 x = some p ∧ p.showable = true ∧ p.hasDict = false ∧ p.shown.length ≤ lim ∧ d = .str p.shown ∧ S' = S := by
    match ds, e0 with
    | [x], e =>
      unfold fRepr at e
      dsimp only at e
      split at e
      case h_4 => cases e
      all_goals
        split at e
        · rename_i p hp
          split at e
          · rename_i hc
            obtain ⟨rfl, rfl⟩ := Prod.mk.inj (Option.some.inj e)
            refine ⟨_, p, rfl, ?_, hp, hc.1, hc.2.1, hc.2.2, rfl, rfl⟩
            first
              | exact .inl ⟨_, rfl⟩
              | exact .inr (.inl ⟨_, rfl⟩)
              | exact .inr (.inr ⟨_, rfl⟩)
          · cases e
        · cases e
  obtain ⟨v, rfl, rv⟩ := rvs1 rs
  obtain ⟨u, rfl, hv⟩ := Vals.one r
  obtain ⟨as, rd⟩ := Dp.reads I _ v u (py_dp R hp rv) hv
  have hu := G.un
  have hdep := (py_lay hp).2
  obtain ⟨a, rfl⟩ : ∃ a, u = .ref a := by
    rcases hx with ⟨es, rfl⟩ | ⟨es, rfl⟩ | ⟨l, rfl⟩
    all_goals
      cases rv
      exact ⟨_, hv⟩
  refine repr_of_reads' rd hs (fun z => by rw [hd] at z; cases z) G.gd (by omega) (fun _ _ e => e) (fun h' u tk hk => ?_) (Nat.le_trans hl lim_le)
  exact ⟨.str p.shown, H, I.kept hk, ⟨_, rfl⟩, post_val R (.str _) P⟩

/-! ### ranges as arguments -/
def okRg (a b : Int) : Prop := -(2 ^ 62) ≤ a ∧ a < 2 ^ 62 ∧ -(2 ^ 62) ≤ b ∧ b < 2 ^ 62 ∧ (b - a).toNat ≤ lim
instance (a b : Int) : Decidable (okRg a b) := by unfold okRg; infer_instance
def lRg (mk : List D → M D) (a b : D) : M D := match a, b with
  | .int i, .int j => fun S => if okRg i j then mk (rowD i (j - i).toNat) S else none
  | _, _ => fail
def mRgL1 (ma : EM) : EM := fun ρ => bnd (ma ρ) fun a => lRg mkL (.int 0) a
def mRgL2 (ma mb : EM) : EM := fun ρ => bnd (ma ρ) fun a => bnd (mb ρ) fun b => lRg mkL a b
def mRgT1 (ma : EM) : EM := fun ρ => bnd (ma ρ) fun a => lRg mkT (.int 0) a
def mRgT2 (ma mb : EM) : EM := fun ρ => bnd (ma ρ) fun a => bnd (mb ρ) fun b => lRg mkT a b
theorem rvs_row {K : PySem.W.Frag} {μ : List Addr} {H : Hp} (a b : Int) : RVs K μ H (rgV a b) (rowD a (b - a).toNat) := by
  unfold rgV rowD
  generalize (b - a).toNat = n
  have go : ∀ l : List Nat, RVs K μ H (l.map fun i => V.int (a + (i : Nat))) (l.map fun (i : Nat) => D.int (a + (i : Int))) := fun l => by
    induction l with
    | nil => exact .nil
    | cons x l ih => exact .cons (.int _) ih
  exact go _
theorem okRg_of {a b : Int} (h : okRg a b) : RgOk a b := ⟨h.1, h.2.1, h.2.2.1, h.2.2.2.1, by have h5 : (b - a).toNat ≤ lim := h.2.2.2.2; have : lim = 1000000 := rfl; omega⟩
theorem lRg_some {mk : List D → M D} {a b d : D} {S S' : Store} (h : lRg mk a b S = some (d, S')) : ∃ i j, a = .int i ∧ b = .int j ∧ okRg i j ∧ mk (rowD i (j - i).toNat) S = some (d, S') := by
  unfold lRg at h
  split at h
  · split at h
    · exact ⟨_, _, rfl, rfl, by assumption, h⟩
    · cases h
  · cases h
theorem mkT_some {r : List D} {S : Store} {d : D} {S' : Store} (h : mkT r S = some (d, S')) : r.length ≤ lim ∧ d = .tup r ∧ S' = S := by
  unfold mkT at h
  split at h
  · obtain ⟨rfl, rfl⟩ := Prod.mk.inj (Option.some.inj h)
    exact ⟨by assumption, rfl, rfl⟩
  · cases h
section
variable {w : World} {K : PySem.W.Frag} {μ : List Addr} {H : Hp} {S S' : Store} {Q : VK} {d : D} {i j : Int}
theorem rgL_end (R : Rel w K μ H S) (h : mkL (rowD i (j - i).toNat) S = some (d, S')) (P : Post w K μ H S' d Q) : ∀ q, H q = none → Q (.ref q) (upd H q (.lst (rgV i j))) := by
  obtain ⟨_, rfl, rfl⟩ := mkL_some h
  exact fun q hn => post_list R hn (rvs_row i j) P
theorem rgT_end (R : Rel w K μ H S) (h : mkT (rowD i (j - i).toNat) S = some (d, S')) (P : Post w K μ H S' d Q) : NewT H Q (rgV i j) := by
  obtain ⟨_, rfl, rfl⟩ := mkT_some h
  exact fun q o ho hn => post_new R hn (.tup (.new ho) (rvs_row i j)) P
end
variable {a b : Expr} {ma mb : EM} {p p2 pos pos2 : Pos}
theorem e_listRg1 (G : Good X) (hm : X.mg "list" = none) (hmr : X.mg "range" = none) (ha : PE X a (lE X.w X.K ma)) (hg : Gl X "list" := by rfl) (hgr : Gl X "range" := by rfl) (na : starEach [a] X.env = (false, eval a X.env) :: starEach [] X.env := by rfl)
    (ne : starEach [.Call (.Name "range" p2) [a] [] pos2] X.env = (false, eval (.Call (.Name "range" p2) [a] [] pos2) X.env) :: starEach [] X.env := by rfl) : PE X (.Call (.Name "list" p) [.Call (.Name "range" p2) [a] [] pos2] [] pos) (lE X.w X.K (mRgL1 ma)) :=
  pe_imp (pe_listRg G.calm hg hm (prg_1 hgr hmr ha na) ne) fun σ H Q h => by
    obtain ⟨μ, S, ρ, d, S', R, E, e, P⟩ := h
    obtain ⟨x, S1, e1, e2⟩ := bnd_some e
    obtain ⟨i, j, q1, rfl, ok, q2⟩ := lRg_some e2
    cases q1
    exact ⟨μ, S, ρ, _, S1, R, E, e1, fun μ1 H1 v x1 R1 r1 => by cases r1; exact ⟨j, rfl, okRg_of ok, rgL_end R1 q2 (P.step x1)⟩⟩
theorem e_tupRg1 (G : Good X) (hm : X.mg "tuple" = none) (hmr : X.mg "range" = none) (ha : PE X a (lE X.w X.K ma)) (hg : Gl X "tuple" := by rfl) (hgr : Gl X "range" := by rfl) (na : starEach [a] X.env = (false, eval a X.env) :: starEach [] X.env := by rfl)
    (ne : starEach [.Call (.Name "range" p2) [a] [] pos2] X.env = (false, eval (.Call (.Name "range" p2) [a] [] pos2) X.env) :: starEach [] X.env := by rfl) : PE X (.Call (.Name "tuple" p) [.Call (.Name "range" p2) [a] [] pos2] [] pos) (lE X.w X.K (mRgT1 ma)) :=
  pe_imp (pe_tupRgN G.calm hg hm (prg_1 hgr hmr ha na) ne) fun σ H Q h => by
    obtain ⟨μ, S, ρ, d, S', R, E, e, P⟩ := h
    obtain ⟨x, S1, e1, e2⟩ := bnd_some e
    obtain ⟨i, j, q1, rfl, ok, q2⟩ := lRg_some e2
    cases q1
    exact ⟨μ, S, ρ, _, S1, R, E, e1, fun μ1 H1 v x1 R1 r1 => by cases r1; exact ⟨j, rfl, okRg_of ok, rgT_end R1 q2 (P.step x1)⟩⟩
theorem e_listRg2 (G : Good X) (hm : X.mg "list" = none) (hmr : X.mg "range" = none) (ha : PE X a (lE X.w X.K ma)) (hb : PE X b (lE X.w X.K mb)) (hg : Gl X "list" := by rfl) (hgr : Gl X "range" := by rfl) (na : starEach [a, b] X.env = (false, eval a X.env) :: starEach [b] X.env := by rfl)
    (nb : starEach [b] X.env = (false, eval b X.env) :: starEach [] X.env := by rfl) (hp : (backTo pos2 (starEach [b] X.env)).any (·.1) = false := by rfl)
    (ne : starEach [.Call (.Name "range" p2) [a, b] [] pos2] X.env = (false, eval (.Call (.Name "range" p2) [a, b] [] pos2) X.env) :: starEach [] X.env := by rfl) : PE X (.Call (.Name "list" p) [.Call (.Name "range" p2) [a, b] [] pos2] [] pos) (lE X.w X.K (mRgL2 ma mb)) :=
  pe_imp (pe_listRg G.calm hg hm (prg_2 hgr hmr ha hb na nb hp) ne) fun σ H Q h => by
    obtain ⟨μ, S, ρ, d, S', R, E, e, P⟩ := h
    obtain ⟨x, S1, e1, e2⟩ := bnd_some e
    obtain ⟨y, S2, e3, e4⟩ := bnd_some e2
    obtain ⟨i, j, rfl, rfl, ok, q2⟩ := lRg_some e4
    exact ⟨μ, S, ρ, _, S1, R, E, e1, fun μ1 H1 v x1 R1 r1 => ⟨μ1, S1, ρ, _, S2, R1, E.mono x1, e3, fun μ2 H2 u x2 R2 r2 => by cases r1; cases r2; exact ⟨i, j, rfl, rfl, okRg_of ok, rgL_end R2 q2 (P.step (x1.trans x2))⟩⟩⟩
theorem e_tupRg2 (G : Good X) (hm : X.mg "tuple" = none) (hmr : X.mg "range" = none) (ha : PE X a (lE X.w X.K ma)) (hb : PE X b (lE X.w X.K mb)) (hg : Gl X "tuple" := by rfl) (hgr : Gl X "range" := by rfl) (na : starEach [a, b] X.env = (false, eval a X.env) :: starEach [b] X.env := by rfl)
    (nb : starEach [b] X.env = (false, eval b X.env) :: starEach [] X.env := by rfl) (hp : (backTo pos2 (starEach [b] X.env)).any (·.1) = false := by rfl)
    (ne : starEach [.Call (.Name "range" p2) [a, b] [] pos2] X.env = (false, eval (.Call (.Name "range" p2) [a, b] [] pos2) X.env) :: starEach [] X.env := by rfl) : PE X (.Call (.Name "tuple" p) [.Call (.Name "range" p2) [a, b] [] pos2] [] pos) (lE X.w X.K (mRgT2 ma mb)) :=
  pe_imp (pe_tupRgN G.calm hg hm (prg_2 hgr hmr ha hb na nb hp) ne) fun σ H Q h => by
    obtain ⟨μ, S, ρ, d, S', R, E, e, P⟩ := h
    obtain ⟨x, S1, e1, e2⟩ := bnd_some e
    obtain ⟨y, S2, e3, e4⟩ := bnd_some e2
    obtain ⟨i, j, rfl, rfl, ok, q2⟩ := lRg_some e4
    exact ⟨μ, S, ρ, _, S1, R, E, e1, fun μ1 H1 v x1 R1 r1 => ⟨μ1, S1, ρ, _, S2, R1, E.mono x1, e3, fun μ2 H2 u x2 R2 r2 => by cases r1; cases r2; exact ⟨i, j, rfl, rfl, okRg_of ok, rgT_end R2 q2 (P.step (x1.trans x2))⟩⟩⟩
end
end VM

/-! VM15: defs and calls -/
namespace VM
open PySem PySem.Spec PyProof.Rows L2

/-- how a def runs, as a machine: n slots, np parameters -/
@[simp] def startD (n : Nat) (ds : List D) : Env := ds.map some ++ List.replicate (n - ds.length) none
def mFun (np n : Nat) (b : SM) : List D → M D := fun ds => if ds.length = np then bnd (b (startD n ds)) fun o => match o with
  | .rt d => ret d
  | .nx _ => ret .non
  | _ => fail
  else fail
/-- a def at f keeps to its machine -/
structure FnV (P : Program) (w : World) (K : PySem.W.Frag) (mg : Str → Option Value) (base : Heap) (k : Nat) (f : Addr) (fd : FuncData) (ps : List Str) (m : List D → M D) : Prop where
  run : ∀ (A : Around) (outer : List PySem.Env) (s : Shared) (H : Hp) (args : Args) (us : List Value) (vs : List V) (Q : VK), Room k A → A.guards = some [] → Env0 P w K mg base A outer s H → BindsTo s fd args (ps.zip us) → Vals vs us → vs.length = ps.length → lRs w K m vs H Q →
    codeAny (model P w) A (.call (.ref f) args) (CR CX0 outer P w H s Q E0) s
theorem FnV.mono {P : Program} {w : World} {K : PySem.W.Frag} {mg : Str → Option Value} {base : Heap} {j k : Nat} {f : Addr} {fd : FuncData} {ps : List Str} {m : List D → M D} (F : FnV P w K mg base j f fd ps m) (h : j ≤ k) : FnV P w K mg base k f fd ps m :=
  ⟨fun A outer s H args us vs Q hr => F.run A outer s H args us vs Q (hr.mono h)⟩
/-- what may be used of the context of a body -/
structure Bd (k : Nat) (X : Cx) : Prop where
  good : Good X
  room : Room k X.A
  own : PassesOwn (model X.prog X.w) X.A X.env X.xe
theorem re_start {K : PySem.W.Frag} {μ : List Addr} {H : Hp} {N : List Str} {vs : List V} {ds : List D} (r : RVs K μ H vs ds) : RE K μ H (L2.start N vs) (startD N.length ds) := by
  have hl := r.length
  refine ⟨by unfold L2.start startD; rw [List.length_append, List.length_append, List.length_map, List.length_map, List.length_replicate, List.length_replicate, hl], fun i d h => ?_⟩
  unfold startD at h
  by_cases hi : i < ds.length
  · rw [List.getElem?_append_left (by rw [List.length_map]; exact hi), List.getElem?_map] at h
    obtain ⟨d', h1, h2⟩ := Option.map_eq_some_iff.mp h
    obtain rfl := Option.some.inj h2
    obtain ⟨v, h3, h4⟩ := r.get h1
    refine ⟨v, ?_, h4⟩
    unfold L2.start
    rw [List.getElem?_append_left (by rw [List.length_map, hl]; exact hi), List.getElem?_map, h3]
    rfl
  · rw [List.getElem?_append_right (by rw [List.length_map]; omega), List.getElem?_replicate] at h
    split at h <;> cases h
theorem mFun_read {w : World} {K : PySem.W.Frag} {np : Nat} {N : List Str} {b : SM} {vs : List V} {H : Hp} {Q : VK} (h : lRs w K (mFun np N.length b) vs H Q) : lS w K b { nx := fun _ H' => Q .non H', rt := Q } (L2.start N vs) H := by
  obtain ⟨μ, S, ds, d, S', R, rs, e, P⟩ := h
  unfold mFun at e
  split at e
  · obtain ⟨o, S1, e1, e2⟩ := bnd_some e
    cases o with
    | rt d' =>
      obtain ⟨rfl, rfl⟩ := Prod.mk.inj (Option.some.inj e2)
      exact ⟨μ, S, _, _, _, R, re_start rs, e1, P⟩
    | nx ρ =>
      obtain ⟨rfl, rfl⟩ := Prod.mk.inj (Option.some.inj e2)
      exact ⟨μ, S, _, _, _, R, re_start rs, e1, fun μ1 H1 σ1 x1 R1 _ => P μ1 H1 .non x1 R1 .non⟩
    | bk ρ => cases e2
    | ct ρ => cases e2
  · cases e
section
variable {P : Program} {w : World} {K : PySem.W.Frag} {mg : Str → Option Value} {base : Heap} {k : Nat}
/-- a def, by the rules of its body -/
theorem fnV_of {f : Addr} {name qual : Str} {params : Arguments} {body : List Stmt} {scope : Scope} {dV kV doc pm cdv ct oc : Value} {an od : Option Addr} {osl : Array (Option Value)} {N ps : List Str} {b : SM}
    (lk : K.lookup f = some ⟨oc, od, .func (PySem.W.fnOf name qual params body scope dV kV doc pm an cdv ct), osl⟩) (hcd : PySem.W.codeIn K cdv qual = true) (S : FnScope N ps scope)
    (hbody : ∀ (A : Around) (outer : List PySem.Env) (s : Shared) (H : Hp), Bd k (cxOf CX0 P w K mg base N qual scope f cdv A outer s H E0).nox → PSs (cxOf CX0 P w K mg base N qual scope f cdv A outer s H E0).nox body (lS w K b)) :
    FnV P w K mg base (k + 1) f (PySem.W.fnOf name qual params body scope dV kV doc pm an cdv ct) ps (mFun ps.length N.length b) := by
  refine ⟨fun A outer s H args us vs Q hr hgd e0 hb r hl hsp => ?_⟩
  have inK : K.In s.heap := e0.mod.kin.keeps fun b o e => (e0.bs b o e).1
  have noLim : s.heap.NoLimit := e0.mod.nolimit.keeps fun b o e => (e0.bs b o e).1
  have kinds : ∀ y ∈ ps.zip us, scope.names.lookup y.1 = some .local ∨ (scope.names.lookup y.1 = some .cell ∧ ((cellsFrom (s.heap.objs.size + 1) scope.names []).lookup y.1).isSome = true) := fun y hy =>
    (S.par y.1 (List.of_mem_zip (show (y.1, y.2) ∈ ps.zip us from hy)).1).imp id fun q => ⟨q, PySem.W.cellsFrom_some _ _ _ (.inl q)⟩
  refine codeAny_call_function hr.depth (inK _ _ lk) rfl S.co S.gen rfl (PySem.W.codeRec_of inK hcd) (hb _ _ _ _ ?_)
  refine wpAny_newFunctionEnv_cells S.kind kinds fun env he t x => ?_
  subst he
  refine ⟨noLim.keeps x.toInCall.keep, codeAny_func ?_⟩
  have I : Inv (cxOf CX0 P w K mg base N qual scope f cdv A outer s H E0) [] (L2.start N vs) H t := inv_start S hr.hd e0 hl r x
  have bd : Bd k (cxOf CX0 P w K mg base N qual scope f cdv A outer s H E0).nox := ⟨⟨rfl, hgd, by have := (hr.deeper (envOfC qual scope s.heap.objs.size f cdv)).un; show (A.deeper (envOfC qual scope s.heap.objs.size f cdv)).units + 130 < cLine; omega⟩, hr.deeper _, PassesOwn.never⟩
  refine wpAny_mono ((hbody A outer s H bd).nox.run [] t (L2.start N vs) H _ I (mFun_read hsp)) (fun fl s' hs => ?_) fun e s' hs => hs
  have back : ∀ {σ' : L2.St} {H' : Hp} {v : V} {u : Value}, Inv (cxOf CX0 P w K mg base N qual scope f cdv A outer s H E0) [] σ' H' s' → RelV v u → Q v H' → CE outer P w H s Q u s' := fun {σ' H' v u} J rv q => ⟨v, H', J.os, J.bare, J.base, J.hok, rv, q⟩
  cases fl with
  | ret u => obtain ⟨v, σ', H', J, rv, q⟩ := hs; exact back J rv q
  | next => obtain ⟨σ', H', J, q⟩ := hs; exact back (v := V.non) (u := Value.none) J rfl q
  | brk => obtain ⟨_, _, _, q⟩ := hs; exact False.elim q
  | cont => obtain ⟨_, _, _, q⟩ := hs; exact False.elim q
theorem FunV {x qual : Str} {params : Arguments} {body : List Stmt} {scope : Scope} {dvs : List V} {kws : List (Str × V)} {f : Addr} {fd : FuncData} {N ps : List Str} {b : SM} (F : FunD K x qual params body scope dvs kws f fd) (S : FnScope N ps scope)
    (hbody : ∀ (cdv : Value) (A : Around) (outer : List PySem.Env) (s : Shared) (H : Hp), Bd k (cxOf CX0 P w K mg base N qual scope f cdv A outer s H E0).nox → PSs (cxOf CX0 P w K mg base N qual scope f cdv A outer s H E0).nox body (lS w K b)) : FnV P w K mg base (k + 1) f fd ps (mFun ps.length N.length b) := by
  obtain ⟨oc, od, dV, kV, doc, pm, an, cdv, ct, osl, rfl, lk, hcd, _, _⟩ := F.ex
  exact fnV_of lk hcd S fun A outer s H bd => hbody cdv A outer s H bd
end

/-! ### calls -/
section
variable {X : Cx} {k : Nat} {f : Addr} {fd : FuncData} {ps : List Str} {m : List D → M D} {x : Str} {p pos : Pos} {e : Expr} {es : List Expr} {ma : AM} {ds : List Value} {dvs : List V} {dds : List D}
/-- the callee's result; the defaults dds fill up -/
def mCall (m : List D → M D) (dds : List D) (ma : AM) : EM := fun ρ => bnd (ma ρ) fun as => m (as ++ dds)
theorem run_fnV {pins : List (Addr × Obj)} {σ : L2.St} {H : Hp} {s : Shared} {Q : VK} {us : List Value} {vs : List V} (F : FnV X.prog X.w X.K X.mg X.base k f fd ps m) (G : Good X) (hr : Room k X.A) (hb : Binds X.K fd ps ds) (hd : Vals dvs ds) (I : Inv X pins σ H s) (r : Vals vs us) (hl : (vs ++ dvs).length = ps.length)
    (h : lRs X.w X.K m (vs ++ dvs) H Q) : wpAny (model X.prog X.w) X.A (call (.ref f) us) (EP X pins σ Q) X.xe s := by
  have r2 : Vals (vs ++ dvs) (us ++ ds) := r.append hd
  refine wpAny_call (codeAny_mono (F.run X.A X.stack s H ⟨us, []⟩ (us ++ ds) (vs ++ dvs) Q hr G.gd I.env0 (hb s us I.kIn (by rw [← r2.length]; exact hl)) r2 hl h) fun r s' hq => ?_)
  cases r with
  | error e => exact False.elim hq
  | ok fl =>
    cases fl with
    | ret u => exact I.after hq
    | next => exact False.elim hq
    | brk => exact False.elim hq
    | cont => exact False.elim hq
theorem lE_call {w : World} {K : PySem.W.Frag} {σ : L2.St} {H : Hp} {Q : VK} (hdd : ∀ μ H, RVs K μ H dvs dds) (hm : ∀ ds S z, m ds S = some z → ds.length = ps.length) (h : lE w K (mCall m dds ma) σ H Q) :
    lA w K ma σ H fun vs H1 => (vs ++ dvs).length = ps.length ∧ lRs w K m (vs ++ dvs) H1 Q := by
  obtain ⟨μ, S, ρ, d, S', R, E, e, P⟩ := h
  obtain ⟨as, S1, e1, e2⟩ := bnd_some e
  refine ⟨μ, S, ρ, as, S1, R, E, e1, fun μ1 H1 vs x1 R1 r1 => ?_⟩
  have r2 := r1.append (hdd μ1 H1)
  exact ⟨by rw [r2.length]; exact hm _ _ _ e2, μ1, S1, _, d, S', R1, r2, e2, P.step x1⟩
theorem mFun_len {np n : Nat} {b : SM} : ∀ ds S z, mFun np n b ds S = some z → ds.length = np := fun ds S z h => by
  unfold mFun at h
  split at h
  · assumption
  · cases h
/-- f(e, ..), f a def of the module -/
theorem e_call (F : FnV X.prog X.w X.K X.mg X.base k f fd ps m) (G : Good X) (hr : Room k X.A) (hm : X.mg x = some (.ref f)) (hk : PySem.W.keepIn X.K (.ref f) = true) (hb : Binds X.K fd ps ds) (hd : Vals dvs ds) (hdd : ∀ μ H, RVs X.K μ H dvs dds) (hlen : ∀ ds S z, m ds S = some z → ds.length = ps.length)
    (ha : PA X (e :: es) (lA X.w X.K ma)) (hg : Gl X x := by rfl) (hdb : (x == ("__debug__" : Str)) = false := by decide) (he : starEach (e :: es) X.env = (false, eval e X.env) :: starEach es X.env := by rfl) (hpl : (backTo pos (starEach es X.env)).any (·.1) = false := by rfl) :
    PE X (.Call (.Name x p) (e :: es) [] pos) (lE X.w X.K (mCall m dds ma)) := by
  refine ⟨fun pins s σ H Q I h => ?_⟩
  refine wpAny_Call_Name_kw (ld_glob I hg hm ?_ hdb)
  refine PySem.W.callWith_K (h₀ := X.base) I.ok.mod.kin hk (thn (ha.run pos pins s σ H _ I (lE_call hdd hlen h)) fun us s1 ⟨vs, H1, I1, r, hl, q⟩ => ⟨I1.kIn, ?_⟩) he hpl
  exact run_fnV F G hr hb hd I1 r hl q
/-- f() -/
theorem e_call0 (F : FnV X.prog X.w X.K X.mg X.base k f fd ps m) (G : Good X) (hr : Room k X.A) (hm : X.mg x = some (.ref f)) (hk : PySem.W.keepIn X.K (.ref f) = true) (hb : Binds X.K fd ps ds) (hd : Vals dvs ds) (hdd : ∀ μ H, RVs X.K μ H dvs dds) (hlen : ∀ ds S z, m ds S = some z → ds.length = ps.length)
    (hg : Gl X x := by rfl) (hdb : (x == ("__debug__" : Str)) = false := by decide) : PE X (.Call (.Name x p) [] [] pos) (lE X.w X.K (mCall m dds aNil)) := by
  refine ⟨fun pins s σ H Q I h => ?_⟩
  refine wpAny_Call_Name_kw (ld_glob I hg hm ?_ hdb)
  obtain ⟨μ, S, ρ, d, S', R, E, e, P⟩ := h
  obtain ⟨as, S1, e1, e2⟩ := bnd_some e
  obtain ⟨rfl, rfl⟩ := Prod.mk.inj (Option.some.inj e1)
  exact PySem.W.callWith_K0 I.kIn hk (run_fnV (us := []) F G hr hb hd I .nil (by rw [List.nil_append, (hdd μ H).length]; exact hlen _ _ _ e2) ⟨μ, _, _, d, S', R, hdd μ H, e2, P⟩)
/-- a global that stands for a whole number -/
theorem e_gint {i : Int} (h : ∃ t, X.mg x = some (.int i t)) (hg : Gl X x := by rfl) (hd : (x == ("__debug__" : Str)) = false := by decide) : PE X (.Name x pos) (lE X.w X.K (mC (.int i))) := by
  obtain ⟨t, ht⟩ := h
  exact pe_imp (pe_glob (v := .int i) hg ht ⟨t, rfl⟩ hd) fun _ _ _ h => lE_c (fun _ _ => rfl) (fun _ _ => .int i) h
end
end VM

/-! VM16: the law's end -/
namespace VM
open PySem PySem.Spec PyProof.Rows L2

def intsD (ns : List Int) : List D := ns.map .int
theorem rvs_ints {K : PySem.W.Frag} {μ : List Addr} {H : Hp} : ∀ ns : List Int, RVs K μ H (ns.map V.int) (intsD ns)
  | [] => .nil
  | n :: ns => .cons (.int n) (rvs_ints ns)
theorem rel_nil {w : World} {K : PySem.W.Frag} {H : Hp} : Rel w K [] H [] := ⟨rfl, List.nodup_nil, fun l o h => by simp at h⟩
/-- the law's def called behind the top: its machine says True -/
theorem law_end {P : Program} {w : World} {K : PySem.W.Frag} {mg mb : Str → Option Value} {k : Nat} {fa a : Addr} {fd : FuncData} {x : Str} {m : List D → M D} {s₁ : Shared} {vs : List Value} {ns : List Int}
    (KX : K.In s₁.heap) (hns : s₁.heap.Ns mainGlobals mg) (hb : s₁.heap.Ns builtinsNs mb) (hbb : ∀ x : Str, x ≠ "__name__" → mb x = bootBuiltins x) (hlim : s₁.heap.NoLimit) (hg : s₁.gens = #[])
    (ha : s₁.heap.get? a = some { cls := .type "list", data := .seq vs.toArray }) (hi : IntsAre vs ns) (hl : ns.length ≤ sizeLine) (hr : Room k callerA)
    (F : ∀ base : Heap, K.In base → base.Ns mainGlobals mg → FnV P w K mg base k fa fd [x] m) (hbind : ∀ (s : Shared) (u : Value), BindsTo s fd ⟨[u], []⟩ [(x, u)])
    (hm : ∃ S', m [.fz (intsD ns)] [] = some (.bl true, S')) :
    codeAny (model P w) callerA (.call (.ref fa) ⟨[.ref a], []⟩) (fun r s' => r = .ok (.ret (.bool true)) ∧ OldK s₁.heap s'.heap ∧ s'.os = s₁.os ∧ AllBare s'.gens) s₁ := by
  obtain ⟨S', hm⟩ := hm
  have rv := vals_ints hi
  have lenV := hi.length
  have hlv : vs.length ≤ sizeLine := by rw [lenV]; exact hl
  -- H0: nothing is tracked but the script, if it is no object of the module
  have main : ∀ H : Hp, (∀ b, H b = none ∨ ∃ o xs, H b = some (.frz o (.lst xs))) → FzL K H a (ns.map V.int) → HOk P w H s₁.heap → (∀ b, H b ≠ none → b = a) → (H a ≠ none → K.lookup a = none) →
      codeAny (model P w) callerA (.call (.ref fa) ⟨[.ref a], []⟩) (fun r s' => r = .ok (.ret (.bool true)) ∧ OldK s₁.heap s'.heap ∧ s'.os = s₁.os ∧ AllBare s'.gens) s₁ := by
    intro H only fz hok one notK
    have keepB : ∀ {b : Addr} {o : Obj}, s₁.heap.get? b = some o → H b = none → (hidT s₁.heap H).get? b = some o := fun e n => hidT_get e n
    have isA : ∀ {b : Addr}, H b ≠ none → ∀ {o : Obj}, s₁.heap.get? b = some o → o = { cls := .type "list", data := .seq vs.toArray } := fun {b} nb {o} e => by
      obtain rfl := one b nb
      exact Option.some.inj (e.symm.trans ha)
    have dicts : ∀ {b : Addr} {o : Obj} {es : Array DictEntry} {ep : Nat}, s₁.heap.get? b = some o → o.data = .dict es ep → H b = none := fun {b o es ep} e d => Classical.byContradiction fun nb => by
      rw [isA nb e] at d
      cases d
    have nsB : ∀ {b : Addr} {m : Str → Option Value}, s₁.heap.Ns b m → (hidT s₁.heap H).Ns b m := fun {b m} ⟨o, es, ep, e, d, r⟩ => ⟨o, es, ep, keepB e (dicts e d), d, r⟩
    have inB : K.In (hidT s₁.heap H) := fun b o e => keepB (KX b o e) (Classical.byContradiction fun nb => by
      obtain rfl := one b nb
      rw [notK nb] at e
      cases e)
    have mod : Mod K mg (hidT s₁.heap H) := ⟨inB, nsB hns, ⟨mb, nsB hb, hbb⟩, let ⟨mc, h1, h2⟩ := hlim; ⟨mc, nsB h1, h2⟩⟩
    have e0 : Env0 P w K mg (hidT s₁.heap H) callerA [] s₁ H := ⟨rfl, mod, fun b o e => of_hidT e, Nat.le_of_eq (hidT_size _ _), trivial, (fun b hb => absurd (show b ∈ ([] : List Addr) from hb) (by simp)), hok, .of_eq hg⟩
    refine codeAny_mono ((F _ inB (nsB hns)).run callerA [] s₁ H ⟨[.ref a], []⟩ [.ref a] [.ref a] (fun v _ => v = .bl true) hr rfl e0 (hbind s₁ (.ref a)) (.cons rfl .nil) rfl
      ⟨[], [], [.fz (intsD ns)], .bl true, S', rel_nil, .cons (.fz fz (rvs_ints ns)) .nil, hm, fun μ1 H1 v x1 R1 r1 => by cases r1; rfl⟩) fun r s' h => ?_
    cases r with
    | error e => exact False.elim h
    | ok fl =>
      cases fl with
      | next => exact False.elim h
      | brk => exact False.elim h
      | cont => exact False.elim h
      | ret u =>
        obtain ⟨v, H', os, bare, un, hok', r', rfl⟩ := h
        obtain rfl : u = Value.bool true := r'
        refine ⟨rfl, OldK.of_keep fun b o e => ?_, os, bare⟩
        rcases only b with q | ⟨ob, xs, q⟩
        · exact un.keep b o e q (fun z => absurd (show b ∈ ([] : List Addr) from z) (by simp)) (by simp)
        · obtain ⟨e1, _⟩ := hok b _ q
          obtain ⟨e2, _⟩ := hok' b _ (un.frzs b ob _ q)
          rw [e] at e1
          cases e1
          exact e2
  cases hk : K.lookup a with
  | some o =>
    have e := KX a o hk
    rw [ha] at e
    cases e
    exact main (fun _ => none) (fun _ => .inl rfl) (.inr ⟨_, vs.toArray, _, hk, rfl, rfl, rfl, by rw [List.size_toArray]; exact hlv, by simpa using rv⟩) (fun b u z => by have z' : (none : Option HO) = some u := z; cases z') (fun b z => absurd rfl z) fun z => absurd rfl z
  | none =>
    refine main (fun b => if b = a then some (.frz { cls := .type "list", data := .seq vs.toArray } (.lst (ns.map V.int))) else none) (fun b => ?_) (.inl ⟨{ cls := .type "list", data := .seq vs.toArray }, if_pos rfl⟩) (fun b u z => ?_) (fun b z => Classical.byContradiction fun hb => z (if_neg hb)) fun _ => hk
    · by_cases hb : b = a
      · exact .inr ⟨_, _, if_pos hb⟩
      · exact .inl (if_neg hb)
    · by_cases hb : b = a
      · have z' := (if_pos hb).symm.trans z
        cases z'
        subst hb
        exact ⟨ha, by rw [List.length_map]; exact hl, vs, _, rv, ha⟩
      · have z' := (if_neg hb).symm.trans z
        cases z'
/-- the goal that the head leaves -/
theorem walk_end {l : PySem.W.OpenLaw} {n k : Nat} {q : Program} {loose : List Str} {XP : (Str → Option Value) → Heap → Prop} {YP : World → Heap → Prop} {d : DefRec} {x : Str} {m : List D → M D}
    (hn : l.most = some n) (hn2 : n ≤ sizeLine) (hdf : d.params.defaults = []) (hr : Room k callerA)
    (F : ∀ (w : World) (mg : Str → Option Value) (fa : Addr) (h : Heap), YP w h → h.Ns mainGlobals mg → mg d.name = some (.ref fa) →
      ∃ (K : PySem.W.Frag) (fd : FuncData), K.In h ∧ (∀ (s : Shared) (u : Value), BindsTo s fd ⟨[u], []⟩ [(x, u)]) ∧ ∀ base : Heap, K.In base → base.Ns mainGlobals mg → FnV l.prog w K mg base k fa fd [x] m)
    (hm : ∀ ns : List Int, ns.length ≤ n → ∃ S', m [.fz (intsD ns)] [] = some (.bl true, S')) : PySem.W.WalkO q loose XP YP l.row.toRowW d [] (fun f vs => PySem.call f vs) := by
  refine Att.attach_call hn hdf fun w s₀ s₁ mg mb fa o pm cd doc a vs ns G Y ho hd hcd hmg hobj hints hlen hg => ?_
  obtain ⟨K, fd, KX, hb, hF⟩ := F w mg fa _ Y G.T.g hmg
  exact law_end KX G.T.g G.T.b G.T.builtins G.T.nolimit hg hobj hints (Nat.le_trans hlen hn2) hr hF hb (hm ns hlen)
end VM

/-! VM17: what a caller may use of a def -/
namespace VM
open PySem PySem.Spec PyProof.Rows L2

theorem Good.blk {X : Cx} (G : Good X) {s : Shared} {H : Hp} {scope : Scope} {env : PySem.Env} {fp : List Addr} : Good (X.blk s H scope env fp) := ⟨G.calm, G.gd, G.un⟩
/-- x may be called: its machine, the defaults that fill up -/
structure Cal (P : Program) (w : World) (K : PySem.W.Frag) (mg : Str → Option Value) (base : Heap) (k : Nat) (x : Str) (dds : List D) (m : List D → M D) : Prop where
  ex : ∃ (f : Addr) (fd : FuncData) (ps : List Str) (ds : List Value) (dvs : List V), FnV P w K mg base k f fd ps m ∧ mg x = some (.ref f) ∧ PySem.W.keepIn K (.ref f) = true ∧ Binds K fd ps ds ∧ Vals dvs ds ∧ (∀ μ H, RVs K μ H dvs dds) ∧ ∀ ds S z, m ds S = some z → ds.length = ps.length
section
variable {X : Cx} {k : Nat} {m : List D → M D} {x : Str} {p pos : Pos} {e : Expr} {es : List Expr} {ma : AM} {dds : List D}
theorem e_cal (C : Cal X.prog X.w X.K X.mg X.base k x dds m) (G : Good X) (hr : Room k X.A) (ha : PA X (e :: es) (lA X.w X.K ma)) (hg : Gl X x := by rfl) (hdb : (x == ("__debug__" : Str)) = false := by decide) (he : starEach (e :: es) X.env = (false, eval e X.env) :: starEach es X.env := by rfl)
    (hpl : (backTo pos (starEach es X.env)).any (·.1) = false := by rfl) : PE X (.Call (.Name x p) (e :: es) [] pos) (lE X.w X.K (mCall m dds ma)) := by
  obtain ⟨f, fd, ps, ds, dvs, c1, c2, c3, c4, c5, c6, c7⟩ := C.ex
  exact e_call c1 G hr c2 c3 c4 c5 c6 c7 ha hg hdb he hpl
theorem e_cal0 (C : Cal X.prog X.w X.K X.mg X.base k x dds m) (G : Good X) (hr : Room k X.A) (hg : Gl X x := by rfl) (hdb : (x == ("__debug__" : Str)) = false := by decide) : PE X (.Call (.Name x p) [] [] pos) (lE X.w X.K (mCall m dds aNil)) := by
  obtain ⟨f, fd, ps, ds, dvs, c1, c2, c3, c4, c5, c6, c7⟩ := C.ex
  exact e_call0 c1 G hr c2 c3 c4 c5 c6 c7 hg hdb
end
section
variable {P : Program} {w : World} {K : PySem.W.Frag} {mg : Str → Option Value} {base : Heap} {k n : Nat} {x : Str} {st : Stmt} {ps : List Str} {f : Addr} {fd : FuncData} {b : SM}
/-- a def without defaults -/
theorem cal_n (F : FunD K x x (defArgs st) (defBody st) (defScope st) [] [] f fd) (V : FnV P w K mg base k f fd ps (mFun ps.length n b)) (hm : mg x = some (.ref f))
    (h : ∀ (kV doc pm : Value) (an : Option Addr) (cdv ct : Value) (us : List Value), us.length = ps.length → bindArgs (PySem.W.fnOf x x (defArgs st) (defBody st) (defScope st) .none kV doc pm an cdv ct) ⟨us, []⟩ = pure (ps.zip us)) : Cal P w K mg base k x [] (mFun ps.length n b) :=
  ⟨f, fd, ps, [], [], V, hm, F.kp, F.bindsN h, .nil, fun _ _ => .nil, mFun_len⟩
/-- .. with defaults; i of the parameters are written -/
theorem cal_d {dvs : List V} (i j : Nat) (dds : List D) (F : FunD K x x (defArgs st) (defBody st) (defScope st) dvs [] f fd) (V : FnV P w K mg base k f fd ps (mFun ps.length n b)) (hm : mg x = some (.ref f)) (hd : dvs ≠ []) (hn : i + (dvs.length - j) = ps.length) (hdd : ∀ μ H, RVs K μ H (dvs.drop j) dds)
    (h : ∀ (T : Addr) (kV doc pm : Value) (an : Option Addr) (cdv ct : Value) (us its : List Value), us.length = i → its.length = dvs.length →
      ∃ k, bindArgs (PySem.W.fnOf x x (defArgs st) (defBody st) (defScope st) (.ref T) kV doc pm an cdv ct) ⟨us, []⟩ = seqItems? (.ref T) >>= k ∧ k (some its.toArray) = pure (ps.zip (us ++ its.drop j))) : Cal P w K mg base k x dds (mFun ps.length n b) := by
  obtain ⟨ds, h1, h2⟩ := F.binds1 i j hd hn h
  exact ⟨f, fd, ps, ds, _, V, hm, F.kp, h2, h1, hdd, mFun_len⟩
end
end VM

/-! VM18: a calculus for the machines: Ok m S Q, m answers at S and what it answers is Q -/
namespace VM
open PySem PySem.Spec PyProof.Rows L2

def Ok {α : Type} (m : M α) (S : Store) (Q : α → Store → Prop) : Prop := ∃ a S', m S = some (a, S') ∧ Q a S'
section
variable {α β : Type} {m : M α} {k : α → M β} {S : Store} {Q Q' : α → Store → Prop}
theorem Ok.imp (h : Ok m S Q) (f : ∀ a S', Q a S' → Q' a S') : Ok m S Q' := let ⟨a, S', e, q⟩ := h; ⟨a, S', e, f a S' q⟩
@[simp] theorem ok_ret {a : α} : Ok (ret a) S Q ↔ Q a S := ⟨fun ⟨_, _, e, q⟩ => by obtain ⟨rfl, rfl⟩ := Prod.mk.inj (Option.some.inj e); exact q, fun q => ⟨a, S, rfl, q⟩⟩
@[simp] theorem ok_fail : Ok (fail : M α) S Q ↔ False := ⟨fun ⟨_, _, e, _⟩ => (by cases e), False.elim⟩
@[simp] theorem ok_bnd {Q : β → Store → Prop} : Ok (bnd m k) S Q ↔ Ok m S fun a S1 => Ok (k a) S1 Q := by
  constructor
  · rintro ⟨b, S', e, q⟩
    obtain ⟨a, S1, e1, e2⟩ := bnd_some e
    exact ⟨a, S1, e1, b, S', e2, q⟩
  · rintro ⟨a, S1, e1, b, S', e2, q⟩
    exact ⟨b, S', by unfold bnd; rw [e1]; exact e2, q⟩
/-- a machine that is told by its answer -/
theorem ok_of {f : Store → Option (α × Store)} {a : α} {S' : Store} (e : f S = some (a, S')) : Ok (fun S => f S) S Q ↔ Q a S' := ⟨fun ⟨_, _, e', q⟩ => by rw [show f S = some _ from e'] at e; obtain ⟨rfl, rfl⟩ := Prod.mk.inj (Option.some.inj e); exact q, fun q => ⟨a, S', e, q⟩⟩
theorem ok_iff {a : α} {S' : Store} (e : m S = some (a, S')) : Ok m S Q ↔ Q a S' := ⟨fun ⟨_, _, e', q⟩ => by rw [e'] at e; obtain ⟨rfl, rfl⟩ := Prod.mk.inj (Option.some.inj e); exact q, fun q => ⟨a, S', e, q⟩⟩
theorem Ok.run {a : α} {S' : Store} (e : m S = some (a, S')) (q : Q a S') : Ok m S Q := ⟨a, S', e, q⟩
end

/-! ### expressions -/
section
variable {S : Store} {ρ : Env} {Q : D → Store → Prop} {QA : List D → Store → Prop} {QT : Bool → Store → Prop} {ma mb mo : EM} {mr : AM} {t u : TM}
@[simp] theorem ok_mVar {i : Nat} : Ok (mVar i ρ) S Q ↔ ∃ d, ρ[i]? = some (some d) ∧ Q d S := by
  constructor
  · rintro ⟨d, S', e, q⟩
    unfold mVar at e
    split at e
    · rename_i d' h
      obtain ⟨rfl, rfl⟩ := Prod.mk.inj (Option.some.inj e)
      exact ⟨_, h, q⟩
    · cases e
  · rintro ⟨d, h, q⟩
    exact ⟨d, S, by unfold mVar; rw [h], q⟩
@[simp] theorem ok_mC {d : D} : Ok (mC d ρ) S Q ↔ Q d S := ok_iff rfl
@[simp] theorem ok_m1 {g : D → M D} : Ok (m1 g ma ρ) S Q ↔ Ok (ma ρ) S fun a S1 => Ok (g a) S1 Q := ok_bnd
@[simp] theorem ok_m2 {g : D → D → M D} : Ok (m2 g ma mb ρ) S Q ↔ Ok (ma ρ) S fun a S1 => Ok (mb ρ) S1 fun b S2 => Ok (g a b) S2 Q := by unfold m2; simp only [ok_bnd]
@[simp] theorem ok_aNil : Ok (aNil ρ) S QA ↔ QA [] S := ok_ret
@[simp] theorem ok_aCons : Ok (aCons ma mr ρ) S QA ↔ Ok (ma ρ) S fun a S1 => Ok (mr ρ) S1 fun r S2 => QA (a :: r) S2 := by unfold aCons; simp only [ok_bnd, ok_ret]
@[simp] theorem ok_mFn {f : List D → M D} : Ok (mFn f mr ρ) S Q ↔ Ok (mr ρ) S fun as S1 => Ok (f as) S1 Q := ok_bnd
@[simp] theorem ok_mCall {f : List D → M D} {dds : List D} : Ok (mCall f dds mr ρ) S Q ↔ Ok (mr ρ) S fun as S1 => Ok (f (as ++ dds)) S1 Q := ok_bnd
theorem ok_ite {α : Type} {b : Bool} {m1 m2 : M α} {Q : α → Store → Prop} : Ok (if b = true then m1 else m2) S Q ↔ if b = true then Ok m1 S Q else Ok m2 S Q := by cases b <;> simp
@[simp] theorem ok_mIf : Ok (mIf t ma mb ρ) S Q ↔ Ok (t ρ) S fun b S1 => if b = true then Ok (ma ρ) S1 Q else Ok (mb ρ) S1 Q := by unfold mIf; simp only [ok_bnd, ok_ite]
@[simp] theorem ok_mkT {ds : List D} : Ok (mkT ds) S Q ↔ ds.length ≤ lim ∧ Q (.tup ds) S := by
  constructor
  · rintro ⟨d, S', e, q⟩
    obtain ⟨h, rfl, rfl⟩ := mkT_some e
    exact ⟨h, q⟩
  · rintro ⟨h, q⟩
    exact ⟨_, _, by unfold mkT; rw [if_pos h], q⟩
@[simp] theorem ok_mkL {ds : List D} : Ok (mkL ds) S Q ↔ ds.length ≤ lim ∧ Q (.lst S.length) (S ++ [.lst ds]) := by
  constructor
  · rintro ⟨d, S', e, q⟩
    obtain ⟨h, rfl, rfl⟩ := mkL_some e
    exact ⟨h, q⟩
  · rintro ⟨h, q⟩
    exact ⟨_, _, by unfold mkL; rw [if_pos h], q⟩
@[simp] theorem ok_mDict0 : Ok (mDict0 ρ) S Q ↔ Q (.dct S.length) (S ++ [.dct []]) := ok_iff rfl
@[simp] theorem ok_tV : Ok (tV ma ρ) S QT ↔ Ok (ma ρ) S fun d S1 => ∃ b, d = .bl b ∧ QT b S1 := by
  unfold tV
  rw [ok_bnd]
  constructor
  · exact fun h => h.imp fun d S1 q => by cases d <;> simp_all
  · exact fun h => h.imp fun d S1 ⟨b, e, q⟩ => by subst e; simpa using q
@[simp] theorem ok_tNt : Ok (tNt t ρ) S QT ↔ Ok (t ρ) S fun b S1 => QT (!b) S1 := by unfold tNt; simp only [ok_bnd, ok_ret]
@[simp] theorem ok_tAn : Ok (tAn t u ρ) S QT ↔ Ok (t ρ) S fun b S1 => if b = true then Ok (u ρ) S1 QT else QT false S1 := by unfold tAn; simp only [ok_bnd, ok_ite, ok_ret]
@[simp] theorem ok_tOrr : Ok (tOrr t u ρ) S QT ↔ Ok (t ρ) S fun b S1 => if b = true then QT true S1 else Ok (u ρ) S1 QT := by unfold tOrr; simp only [ok_bnd, ok_ite, ok_ret]
@[simp] theorem ok_tTrue : Ok (tTrue ρ) S QT ↔ QT true S := ok_ret
theorem ok_map {α β : Type} {o : Option α} {f : α → β} {Q : β → Store → Prop} : Ok (fun S => o.map fun a => (f a, S)) S Q ↔ ∃ a, o = some a ∧ Q (f a) S := by
  constructor
  · rintro ⟨b, S', e, q⟩
    obtain ⟨a, e1, e2⟩ := Option.map_eq_some_iff.mp e
    obtain ⟨rfl, rfl⟩ := Prod.mk.inj e2
    exact ⟨a, e1, q⟩
  · rintro ⟨a, rfl, q⟩
    exact ⟨_, _, rfl, q⟩
theorem ok_mapS {α β : Type} {o : Store → Option α} {f : α → β} {Q : β → Store → Prop} : Ok (fun S => (o S).map fun a => (f a, S)) S Q ↔ ∃ a, o S = some a ∧ Q (f a) S := by
  constructor
  · rintro ⟨b, S', e, q⟩
    obtain ⟨a, e1, e2⟩ := Option.map_eq_some_iff.mp e
    obtain ⟨rfl, rfl⟩ := Prod.mk.inj e2
    exact ⟨a, e1, q⟩
  · rintro ⟨a, h, q⟩
    exact ⟨f a, S, by show (o S).map _ = _; rw [h]; rfl, q⟩
@[simp] theorem ok_tTr : Ok (tTr ma ρ) S QT ↔ Ok (ma ρ) S fun d S1 => ∃ k, truD S1 d = some k ∧ QT k S1 := by unfold tTr; rw [ok_bnd]; simp only [ok_mapS]
@[simp] theorem ok_mNot : Ok (mNot ma ρ) S Q ↔ Ok (ma ρ) S fun d S1 => ∃ k, truD S1 d = some k ∧ Q (.bl (!k)) S1 := by unfold mNot; rw [ok_bnd]; simp only [ok_mapS]
@[simp] theorem ok_mIsi {n : String} : Ok (mIsi n ma ρ) S Q ↔ Ok (ma ρ) S fun d S1 => ∃ k, isiM n S1 d = some k ∧ Q (.bl k) S1 := by unfold mIsi; rw [ok_bnd]; simp only [ok_mapS]
@[simp] theorem ok_mAnd : Ok (mAnd ma mb ρ) S Q ↔ Ok (ma ρ) S fun d S1 => ∃ k, truD S1 d = some k ∧ if k = true then Ok (mb ρ) S1 Q else Q d S1 := by
  unfold mAnd
  rw [ok_bnd]
  constructor
  · exact fun h => h.imp fun d S1 q => by
      obtain ⟨a, S', e, q⟩ := q
      dsimp only at e
      cases h : truD S1 d with
      | none => rw [h] at e; cases e
      | some k =>
        rw [h] at e
        cases k with
        | false =>
          obtain ⟨rfl, rfl⟩ := Prod.mk.inj (Option.some.inj e)
          exact ⟨_, rfl, by simpa using q⟩
        | true => exact ⟨_, rfl, by simpa using (show Ok (mb ρ) S1 Q from ⟨a, S', e, q⟩)⟩
  · exact fun h => h.imp fun d S1 ⟨k, h, q⟩ => by
      cases k with
      | false => exact ⟨d, S1, by dsimp only; rw [h], by simpa using q⟩
      | true =>
        obtain ⟨a, S', e, q⟩ : Ok (mb ρ) S1 Q := by simpa using q
        exact ⟨a, S', by dsimp only; rw [h]; exact e, q⟩
@[simp] theorem ok_mOr : Ok (mOr ma mb ρ) S Q ↔ Ok (ma ρ) S fun d S1 => ∃ k, truD S1 d = some k ∧ if k = true then Q d S1 else Ok (mb ρ) S1 Q := by
  unfold mOr
  rw [ok_bnd]
  constructor
  · exact fun h => h.imp fun d S1 q => by
      obtain ⟨a, S', e, q⟩ := q
      dsimp only at e
      cases h : truD S1 d with
      | none => rw [h] at e; cases e
      | some k =>
        rw [h] at e
        cases k with
        | true =>
          obtain ⟨rfl, rfl⟩ := Prod.mk.inj (Option.some.inj e)
          exact ⟨_, rfl, by simpa using q⟩
        | false => exact ⟨_, rfl, by simpa using (show Ok (mb ρ) S1 Q from ⟨a, S', e, q⟩)⟩
  · exact fun h => h.imp fun d S1 ⟨k, h, q⟩ => by
      cases k with
      | true => exact ⟨d, S1, by dsimp only; rw [h], by simpa using q⟩
      | false =>
        obtain ⟨a, S', e, q⟩ : Ok (mb ρ) S1 Q := by simpa using q
        exact ⟨a, S', by dsimp only; rw [h]; exact e, q⟩
@[simp] theorem ok_mMeth {ok : D → Store → Bool} {f : D → List D → M D} : Ok (mMeth ok f mo mr ρ) S Q ↔ Ok (mo ρ) S fun o S1 => ok o S1 = true ∧ Ok (mr ρ) S1 fun as S2 => Ok (f o as) S2 Q := by
  unfold mMeth
  rw [ok_bnd]
  constructor
  · exact fun h => h.imp fun o S1 q => by
      obtain ⟨a, S', e, q⟩ := q
      dsimp only at e
      split at e
      · rename_i h
        exact ⟨h, ok_bnd.mp ⟨a, S', e, q⟩⟩
      · cases e
  · exact fun h => h.imp fun o S1 ⟨h, q⟩ => by
      obtain ⟨a, S', e, q⟩ := ok_bnd.mpr q
      exact ⟨a, S', by dsimp only; rw [if_pos h]; exact e, q⟩
@[simp] theorem ok_mChain {mr : D → EM} : Ok (mChain ma mr ρ) S Q ↔ Ok (ma ρ) S fun d S1 => Ok (mr d ρ) S1 Q := ok_bnd
@[simp] theorem ok_mLast {g : D → D → M D} {d : D} : Ok (mLast g mb d ρ) S Q ↔ Ok (mb ρ) S fun b S1 => Ok (g d b) S1 Q := ok_bnd
@[simp] theorem ok_mLink {g : D → D → M D} {mr : D → EM} {d : D} : Ok (mLink g mb mr d ρ) S Q ↔ Ok (mb ρ) S fun b S1 => Ok (g d b) S1 fun k S2 => ∃ c, k = .bl c ∧ if c = true then Ok (mr b ρ) S2 Q else Q (.bl false) S2 := by
  unfold mLink
  simp only [ok_bnd]
  constructor
  · exact fun h => h.imp fun b S1 h => h.imp fun k S2 q => by
      cases k with
      | bl c => cases c <;> simp_all
      | _ => simp_all
  · exact fun h => h.imp fun b S1 h => h.imp fun k S2 ⟨c, e, q⟩ => by subst e; cases c <;> simp_all
end

/-! ### statements -/
section
variable {S : Store} {ρ : Env} {Q : Out → Store → Prop} {QG : Env → Store → Prop} {m r a b : SM} {me ma mb mc : EM} {t : TM} {g : GM} {gs : GMs}
def thenO (r : SM) (Q : Out → Store → Prop) : Out → Store → Prop
  | .nx ρ, S => Ok (r ρ) S Q
  | o, S => Q o S
@[simp] theorem thenO_nx {ρ : Env} : thenO r Q (.nx ρ) S = Ok (r ρ) S Q := rfl
@[simp] theorem thenO_rt {d : D} : thenO r Q (.rt d) S = Q (.rt d) S := rfl
@[simp] theorem thenO_bk {ρ : Env} : thenO r Q (.bk ρ) S = Q (.bk ρ) S := rfl
@[simp] theorem thenO_ct {ρ : Env} : thenO r Q (.ct ρ) S = Q (.ct ρ) S := rfl
@[simp] theorem ok_sNil : Ok (sNil ρ) S Q ↔ Q (.nx ρ) S := ok_ret
@[simp] theorem ok_sSeq : Ok (sSeq m r ρ) S Q ↔ Ok (m ρ) S (thenO r Q) := by
  unfold sSeq
  rw [ok_bnd]
  constructor
  · exact fun h => h.imp fun o S1 q => by cases o <;> simp_all
  · exact fun h => h.imp fun o S1 q => by cases o <;> simp_all
@[simp] theorem ok_sSet {i : Nat} : Ok (sSet i me ρ) S Q ↔ Ok (me ρ) S fun d S1 => Q (.nx (ρ.set i (some d))) S1 := by unfold sSet; simp only [ok_bnd, ok_ret]
@[simp] theorem ok_sAsg : Ok (sAsg g me ρ) S Q ↔ Ok (me ρ) S fun d S1 => Ok (g d ρ) S1 fun ρ' S2 => Q (.nx ρ') S2 := by unfold sAsg; simp only [ok_bnd, ok_ret]
@[simp] theorem ok_sPar {i j : Nat} : Ok (sPar i j ma mb ρ) S Q ↔ Ok (ma ρ) S fun x S1 => Ok (mb ρ) S1 fun y S2 => Q (.nx ((ρ.set i (some x)).set j (some y))) S2 := by unfold sPar; simp only [ok_bnd, ok_ret]
@[simp] theorem ok_sPar3 {i j k : Nat} : Ok (sPar3 i j k ma mb mc ρ) S Q ↔ Ok (ma ρ) S fun x S1 => Ok (mb ρ) S1 fun y S2 => Ok (mc ρ) S2 fun z S3 => Q (.nx (((ρ.set i (some x)).set j (some y)).set k (some z))) S3 := by unfold sPar3; simp only [ok_bnd, ok_ret]
@[simp] theorem ok_sExpr : Ok (sExpr me ρ) S Q ↔ Ok (me ρ) S fun _ S1 => Q (.nx ρ) S1 := by unfold sExpr; simp only [ok_bnd, ok_ret]
@[simp] theorem ok_sRet : Ok (sRet me ρ) S Q ↔ Ok (me ρ) S fun d S1 => Q (.rt d) S1 := by unfold sRet; simp only [ok_bnd, ok_ret]
@[simp] theorem ok_sRetN : Ok (sRetN ρ) S Q ↔ Q (.rt .non) S := ok_ret
@[simp] theorem ok_sIf : Ok (sIf t a b ρ) S Q ↔ Ok (t ρ) S fun k S1 => if k = true then Ok (a ρ) S1 Q else Ok (b ρ) S1 Q := by unfold sIf; simp only [ok_bnd, ok_ite]
@[simp] theorem ok_sBrk : Ok (sBrk ρ) S Q ↔ Q (.bk ρ) S := ok_ret
@[simp] theorem ok_sCnt : Ok (sCnt ρ) S Q ↔ Q (.ct ρ) S := ok_ret
@[simp] theorem ok_sNever : Ok (sNever ρ) S Q ↔ False := ok_fail
@[simp] theorem ok_gNm {i : Nat} {d : D} : Ok (gNm i d ρ) S QG ↔ QG (ρ.set i (some d)) S := ok_ret
@[simp] theorem ok_gTp {ds : List D} : Ok (gTp gs (.tup ds) ρ) S QG ↔ Ok (gs ds ρ) S QG := Iff.rfl
@[simp] theorem ok_gTpP {ds : List D} : Ok (gTp gs (.pr ds) ρ) S QG ↔ Ok (gs ds ρ) S QG := Iff.rfl
@[simp] theorem ok_gsNil : Ok (gsNil [] ρ) S QG ↔ QG ρ S := ok_ret
@[simp] theorem ok_gsCons {d : D} {ds : List D} : Ok (gsCons g gs (d :: ds) ρ) S QG ↔ Ok (g d ρ) S fun ρ1 S1 => Ok (gs ds ρ1) S1 QG := ok_bnd
@[simp] theorem ok_gSb {set : D → D → D → M Unit} {d : D} : Ok (gSb set ma mb d ρ) S QG ↔ Ok (ma ρ) S fun o S1 => Ok (mb ρ) S1 fun i S2 => Ok (set o i d) S2 fun _ S3 => QG ρ S3 := by unfold gSb; simp only [ok_bnd, ok_ret]
def retO (Q : D → Store → Prop) : Out → Store → Prop
  | .rt d, S => Q d S
  | .nx _, S => Q .non S
  | _, _ => False
@[simp] theorem retO_rt {Q : D → Store → Prop} {d : D} : retO Q (.rt d) S = Q d S := rfl
@[simp] theorem retO_nx {Q : D → Store → Prop} {ρ : Env} : retO Q (.nx ρ) S = Q .non S := rfl
@[simp] theorem retO_bk {Q : D → Store → Prop} {ρ : Env} : retO Q (.bk ρ) S = False := rfl
@[simp] theorem retO_ct {Q : D → Store → Prop} {ρ : Env} : retO Q (.ct ρ) S = False := rfl
theorem ok_mFun {np n : Nat} {ds : List D} {Q : D → Store → Prop} : Ok (mFun np n b ds) S Q ↔ ds.length = np ∧ Ok (b (startD n ds)) S (retO Q) := by
  unfold mFun
  by_cases h : ds.length = np
  · rw [if_pos h, ok_bnd]
    simp only [h, true_and]
    constructor
    · exact fun h => h.imp fun o S1 q => by cases o <;> simp_all
    · exact fun h => h.imp fun o S1 q => by cases o <;> simp_all
  · rw [if_neg h]
    simp [h]
end

/-! ### loops -/
section
open Classical
variable {lv : Lv} {g : GM} {body : SM} {t : TM} {me mk mv : EM}
def afterB (N : Env → Store → Prop) (Q : Out → Store → Prop) : Out → Store → Prop
  | .nx ρ, S => N ρ S
  | .ct ρ, S => N ρ S
  | .bk ρ, S => Q (.nx ρ) S
  | .rt d, S => Q (.rt d) S
@[simp] theorem afterB_nx {N : Env → Store → Prop} {Q : Out → Store → Prop} {ρ : Env} {S : Store} : afterB N Q (.nx ρ) S = N ρ S := rfl
@[simp] theorem afterB_ct {N : Env → Store → Prop} {Q : Out → Store → Prop} {ρ : Env} {S : Store} : afterB N Q (.ct ρ) S = N ρ S := rfl
@[simp] theorem afterB_bk {N : Env → Store → Prop} {Q : Out → Store → Prop} {ρ : Env} {S : Store} : afterB N Q (.bk ρ) S = Q (.nx ρ) S := rfl
@[simp] theorem afterB_rt {N : Env → Store → Prop} {Q : Out → Store → Prop} {d : D} {S : Store} : afterB N Q (.rt d) S = Q (.rt d) S := rfl
theorem ok_sFor {mi : IM} {ρ : Env} {S : Store} {Q : Out → Store → Prop} : Ok (sFor mi g body ρ) S Q ↔ Ok (mi ρ) S fun p S1 => Ok (forM p.2 g body p.1 ρ) S1 Q := ok_bnd
/-- a for loop by an invariant: done items, env, store -/
theorem ok_for (I : List D → Env → Store → Prop) {ds : List D} {ρ : Env} {S : Store} {Q : Out → Store → Prop} (h0 : I [] ρ S) (hl : ∀ pre ρ S, I pre ρ S → Live lv S)
    (hs : ∀ pre d post ρ S, ds = pre ++ d :: post → I pre ρ S → Ok (g d ρ) S fun ρ1 S1 => Ok (body ρ1) S1 (afterB (fun ρ2 S2 => I (pre ++ [d]) ρ2 S2) Q)) (he : ∀ ρ S, I ds ρ S → Q (.nx ρ) S) : Ok (forM lv g body ds ρ) S Q := by
  have go : ∀ (post pre : List D) (ρ : Env) (S : Store), ds = pre ++ post → I pre ρ S → Ok (forM lv g body post ρ) S Q := by
    intro post
    induction post with
    | nil =>
      intro pre ρ S e i
      rw [List.append_nil] at e
      subst e
      exact ⟨.nx ρ, S, by unfold forM; rw [if_pos (hl _ _ _ i)], he _ _ i⟩
    | cons d post ih =>
      intro pre ρ S e i
      obtain ⟨ρ1, S1, e1, o, S2, e2, q⟩ := hs pre d post ρ S e i
      have lvS := hl _ _ _ i
      have eq : forM lv g body (d :: post) ρ S = (match o with
          | .nx ρ2 => forM lv g body post ρ2
          | .ct ρ2 => forM lv g body post ρ2
          | .bk ρ2 => ret (.nx ρ2)
          | .rt r => ret (.rt r)) S2 := by
        show (if Live lv S then _ else none) = _
        rw [if_pos lvS]
        unfold bnd
        rw [e1]
        dsimp only
        rw [e2]
        all_goals (cases o <;> rfl)
      cases o with
      | nx ρ2 =>
        obtain ⟨z, S', e3, q'⟩ := ih (pre ++ [d]) ρ2 S2 (by rw [e]; simp) q
        exact ⟨z, S', by rw [eq]; exact e3, q'⟩
      | ct ρ2 =>
        obtain ⟨z, S', e3, q'⟩ := ih (pre ++ [d]) ρ2 S2 (by rw [e]; simp) q
        exact ⟨z, S', by rw [eq]; exact e3, q'⟩
      | bk ρ2 => exact ⟨_, _, by rw [eq]; rfl, q⟩
      | rt r => exact ⟨_, _, by rw [eq]; rfl, q⟩
  exact go ds [] ρ S rfl h0
theorem ok_mComp {vs : List Nat} {mi : IM} {ρ : Env} {S : Store} {Q : D → Store → Prop} : Ok (mComp vs mi g t me ρ) S Q ↔ Ok (mi ρ) S fun p S1 => Ok (compGo p.2 g t me (wipeE vs ρ) p.1) S1 fun r S2 => Ok (mkL r) S2 Q := by unfold mComp; simp only [ok_bnd]
/-- a comprehension by an invariant: done items, what is made, store -/
theorem ok_comp (I : List D → List D → Store → Prop) {ds : List D} {ρ : Env} {S : Store} {Q : List D → Store → Prop} (h0 : I [] [] S) (hl : ∀ pre acc S, I pre acc S → Live lv S)
    (hs : ∀ pre d post acc S, ds = pre ++ d :: post → I pre acc S → Ok (g d ρ) S fun ρ1 S1 => Ok (t ρ1) S1 fun b S2 => if b = true then Ok (me ρ1) S2 fun y S3 => I (pre ++ [d]) (acc ++ [y]) S3 else I (pre ++ [d]) acc S2)
    (he : ∀ acc S, I ds acc S → Q acc S) : Ok (compGo lv g t me ρ ds) S Q := by
  have go : ∀ (post pre acc : List D) (S : Store), ds = pre ++ post → I pre acc S → Ok (compGo lv g t me ρ post) S fun r S' => I ds (acc ++ r) S' := by
    intro post
    induction post with
    | nil =>
      intro pre acc S e i
      rw [List.append_nil] at e
      subst e
      exact ⟨[], S, by unfold compGo; rw [if_pos (hl _ _ _ i)], by simpa using i⟩
    | cons d post ih =>
      intro pre acc S e i
      obtain ⟨ρ1, S1, e1, b, S2, e2, q⟩ := hs pre d post acc S e i
      have lvS := hl _ _ _ i
      cases b with
      | false =>
        obtain ⟨r, S', e3, q'⟩ := ih (pre ++ [d]) acc S2 (by rw [e]; simp) (by simpa using q)
        refine ⟨r, S', ?_, q'⟩
        show (if Live lv S then _ else none) = _
        rw [if_pos lvS]
        unfold bnd
        rw [e1]
        dsimp only
        rw [e2]
        exact e3
      | true =>
        obtain ⟨y, S3, e4, q2⟩ : Ok (me ρ1) S2 fun y S3 => I (pre ++ [d]) (acc ++ [y]) S3 := by simpa using q
        obtain ⟨r, S', e3, q'⟩ := ih (pre ++ [d]) (acc ++ [y]) S3 (by rw [e]; simp) q2
        refine ⟨y :: r, S', ?_, by simpa using q'⟩
        show (if Live lv S then _ else none) = _
        rw [if_pos lvS]
        unfold bnd
        rw [e1]
        dsimp only
        rw [e2]
        dsimp only
        rw [if_pos rfl, e4]
        dsimp only
        rw [e3]
        rfl
  exact (go ds [] [] S rfl h0).imp fun r S' i => he _ _ (by simpa using i)
theorem ok_mDComp {vs : List Nat} {mi : IM} {ρ : Env} {S : Store} {Q : D → Store → Prop} : Ok (mDComp vs mi g t mk mv ρ) S Q ↔ Ok (mi ρ) S fun p S1 => Ok (dcGo p.2 g t mk mv (wipeE vs ρ) p.1 []) S1 fun r S2 => Q (.dct S2.length) (S2 ++ [.dct r]) := by
  unfold mDComp
  simp only [ok_bnd]
  have e : ∀ (r : KV') (S2 : Store), Ok (mkD r) S2 Q ↔ Q (.dct S2.length) (S2 ++ [.dct r]) := fun r S2 => ok_iff rfl
  simp only [e]
theorem ok_putM {kvs : KV'} {k v : D} {S : Store} {Q : KV' → Store → Prop} : Ok (putM kvs k v) S Q ↔ ∃ nk, D.key k = some nk ∧ fits kvs nk = true ∧ kvs.length < lim ∧ Q (dput kvs nk v) S := by
  constructor
  · rintro ⟨r, S', e, q⟩
    obtain ⟨nk, h1, h2, h3, rfl, rfl⟩ := putM_some e
    exact ⟨nk, h1, h2, h3, q⟩
  · rintro ⟨nk, h1, h2, h3, q⟩
    exact ⟨_, S, by unfold putM; rw [h1]; dsimp only; rw [if_pos ⟨h2, h3⟩], q⟩
theorem ok_dcomp (I : List D → KV' → Store → Prop) {ds : List D} {ρ : Env} {S : Store} {Q : KV' → Store → Prop} (h0 : I [] [] S) (hl : ∀ pre acc S, I pre acc S → Live lv S)
    (hs : ∀ pre d post acc S, ds = pre ++ d :: post → I pre acc S → Ok (g d ρ) S fun ρ1 S1 => Ok (t ρ1) S1 fun b S2 => if b = true then Ok (mk ρ1) S2 fun k S3 => Ok (mv ρ1) S3 fun v S4 => Ok (putM acc k v) S4 fun acc' S5 => I (pre ++ [d]) acc' S5 else I (pre ++ [d]) acc S2)
    (he : ∀ acc S, I ds acc S → Q acc S) : Ok (dcGo lv g t mk mv ρ ds []) S Q := by
  have go : ∀ (post pre : List D) (acc : KV') (S : Store), ds = pre ++ post → I pre acc S → Ok (dcGo lv g t mk mv ρ post acc) S fun r S' => I ds r S' := by
    intro post
    induction post with
    | nil =>
      intro pre acc S e i
      rw [List.append_nil] at e
      subst e
      exact ⟨acc, S, by unfold dcGo; rw [if_pos (hl _ _ _ i)], i⟩
    | cons d post ih =>
      intro pre acc S e i
      obtain ⟨ρ1, S1, e1, b, S2, e2, q⟩ := hs pre d post acc S e i
      have lvS := hl _ _ _ i
      cases b with
      | false =>
        obtain ⟨r, S', e3, q'⟩ := ih (pre ++ [d]) acc S2 (by rw [e]; simp) (by simpa using q)
        refine ⟨r, S', ?_, q'⟩
        show (if Live lv S then _ else none) = _
        rw [if_pos lvS]
        unfold bnd
        rw [e1]
        dsimp only
        rw [e2]
        exact e3
      | true =>
        obtain ⟨k, S3, e4, v, S4, e5, acc', S5, e6, q2⟩ : Ok (mk ρ1) S2 fun k S3 => Ok (mv ρ1) S3 fun v S4 => Ok (putM acc k v) S4 fun acc' S5 => I (pre ++ [d]) acc' S5 := by simpa using q
        obtain ⟨r, S', e3, q'⟩ := ih (pre ++ [d]) acc' S5 (by rw [e]; simp) q2
        refine ⟨r, S', ?_, q'⟩
        show (if Live lv S then _ else none) = _
        rw [if_pos lvS]
        unfold bnd
        rw [e1]
        dsimp only
        rw [e2]
        dsimp only
        rw [if_pos rfl, e4]
        dsimp only
        rw [e5]
        dsimp only
        rw [e6]
        exact e3
  exact (go ds [] [] S rfl h0).imp fun r S' i => he _ _ i
end

/-! ### what is walked -/
section
variable {S : Store} {ρ : Env} {QI : List D × Lv → Store → Prop} {me : EM} {ma : AM}
@[simp] theorem ok_mSeq : Ok (mSeq me ρ) S QI ↔ Ok (me ρ) S fun d S1 => ∃ p, seqLv S1 d = some p ∧ QI p S1 := by
  unfold mSeq
  rw [ok_bnd]
  simp only [ok_mapS]
@[simp] theorem ok_mRange1 : Ok (mRange1 ma ρ) S QI ↔ Ok (ma ρ) S fun ds S1 => Ok (rng1 ds) S1 QI := ok_bnd
@[simp] theorem ok_mRange2 : Ok (mRange2 ma ρ) S QI ↔ Ok (ma ρ) S fun ds S1 => Ok (rng2 ds) S1 QI := ok_bnd
@[simp] theorem ok_mRange3 : Ok (mRange3 ma ρ) S QI ↔ Ok (ma ρ) S fun ds S1 => Ok (rng3 ds) S1 QI := ok_bnd
@[simp] theorem ok_mZip : Ok (mZip ma ρ) S QI ↔ Ok (ma ρ) S fun ds S1 => Ok (zipM ds) S1 QI := ok_bnd
@[simp] theorem ok_mEnum : Ok (mEnum ma ρ) S QI ↔ Ok (ma ρ) S fun ds S1 => Ok (enumM ds) S1 QI := ok_bnd
theorem ok_guard {α : Type} {c : Prop} [Decidable c] {x : α} {Q : α → Store → Prop} : Ok (fun S => if c then some (x, S) else none) S Q ↔ c ∧ Q x S := by
  constructor
  · rintro ⟨a, S', e, q⟩
    dsimp only at e
    split at e
    · obtain ⟨rfl, rfl⟩ := Prod.mk.inj (Option.some.inj e)
      exact ⟨by assumption, q⟩
    · cases e
  · rintro ⟨h, q⟩
    exact ⟨x, S, by dsimp only; rw [if_pos h], q⟩
@[simp] theorem ok_rng1 {j : Int} : Ok (rng1 [.int j]) S QI ↔ (-(2 ^ 62) ≤ j ∧ j < 2 ^ 62) ∧ QI (rowD 0 j.toNat, []) S := ok_guard
@[simp] theorem ok_rng2 {i j : Int} : Ok (rng2 [.int i, .int j]) S QI ↔ (-(2 ^ 62) ≤ i ∧ i < 2 ^ 62 ∧ -(2 ^ 62) ≤ j ∧ j < 2 ^ 62) ∧ QI (rowD i (j - i).toNat, []) S := ok_guard
end
end VM

/-! VM19: what the operations answer at plain values; stores that grow -/
namespace VM
open PySem PySem.Spec PyProof.Rows L2

/-! ### stores -/
/-- w: the places that may have been written; all others stand as they stood -/
structure Keep (w : List Nat) (S S' : Store) : Prop where
  len : S.length ≤ S'.length
  at_ : ∀ i, i ∉ w → ∀ o, S[i]? = some o → S'[i]? = some o
section
variable {w v : List Nat} {S S1 S2 : Store}
theorem Keep.refl : Keep w S S := ⟨Nat.le_refl _, fun _ _ _ h => h⟩
theorem Keep.trans (a : Keep w S S1) (b : Keep w S1 S2) : Keep w S S2 := ⟨Nat.le_trans a.len b.len, fun i hi o h => b.at_ i hi o (a.at_ i hi o h)⟩
theorem Keep.mono (a : Keep w S S1) (h : ∀ i ∈ w, i ∈ v) : Keep v S S1 := ⟨a.len, fun i hi o e => a.at_ i (fun m => hi (h i m)) o e⟩
theorem Keep.all (a : Keep [] S S1) : Keep v S S1 := a.mono fun _ h => by cases h
theorem keep_app {T : Store} : Keep w S (S ++ T) := ⟨by rw [List.length_append]; omega, fun i _ o h => by rw [List.getElem?_append_left (List.getElem?_eq_some_iff.mp h).1]; exact h⟩
theorem keep_set {l : Nat} {o : Ob} (h : l ∈ w) : Keep w S (S.set l o) := ⟨by rw [List.length_set]; exact Nat.le_refl _, fun i hi o' e => by rw [List.getElem?_set_ne (fun z => hi (by rw [← z]; exact h))]; exact e⟩
/-- places that were made on the way may be forgotten -/
theorem Keep.drop (a : Keep (w ++ v) S S1) (h : ∀ i ∈ v, S.length ≤ i) : Keep w S S1 := ⟨a.len, fun i hi o e => a.at_ i (fun m => (List.mem_append.mp m).elim hi fun m => absurd (h i m) (Nat.not_le.mpr (List.getElem?_eq_some_iff.mp e).1)) o e⟩
theorem live_keep {lv : Lv} (hl : Live lv S) (a : Keep w S S1) (h : ∀ p ∈ lv, p.1 ∉ w) : Live lv S1 := fun p hp => a.at_ _ (h p hp) _ (hl p hp)
theorem get_app {T : Store} {i : Nat} {o : Ob} (h : S[i]? = some o) : (S ++ T)[i]? = some o := by rw [List.getElem?_append_left (List.getElem?_eq_some_iff.mp h).1]; exact h
theorem get_last {o : Ob} : (S ++ [o])[S.length]? = some o := by rw [List.getElem?_append_right (Nat.le_refl _), Nat.sub_self]; rfl
theorem get_set {l : Nat} {o o' : Ob} (h : S[l]? = some o) : (S.set l o')[l]? = some o' := by
  rw [List.getElem?_set_self (List.getElem?_eq_some_iff.mp h).1]
theorem lt_of_get {l : Nat} {o : Ob} (h : S[l]? = some o) : l < S.length := (List.getElem?_eq_some_iff.mp h).1
@[simp] theorem live_nil : Live [] S := fun _ h => by cases h
@[simp] theorem live_one {l : Nat} {o : Ob} : Live [(l, o)] S ↔ S[l]? = some o := ⟨fun h => h _ (List.mem_singleton.mpr rfl), fun h p hp => by rw [List.mem_singleton.mp hp]; exact h⟩
end

/-! ### numbers -/
section
variable {S : Store} {Q : D → Store → Prop} {i j : Int} {a b : Bool}
@[simp] theorem ok_addI : Ok (addM (.int i) (.int j)) S Q ↔ Q (.int (i + j)) S := ok_ret
@[simp] theorem ok_subI : Ok (subM (.int i) (.int j)) S Q ↔ Q (.int (i - j)) S := ok_ret
theorem ok_if {α : Type} {c : Prop} [Decidable c] {m : M α} {Q : α → Store → Prop} : Ok (if c then m else fail) S Q ↔ c ∧ Ok m S Q := by
  by_cases h : c
  · rw [if_pos h]; simp [h]
  · rw [if_neg h]; simp [h]
@[simp] theorem ok_mulI : Ok (mulM (.int i) (.int j)) S Q ↔ ((-(2 ^ 64) < i ∧ i < 2 ^ 64) ∨ (-(2 ^ 64) < j ∧ j < 2 ^ 64)) ∧ Q (.int (i * j)) S := by
  show Ok (if _ then _ else _) S Q ↔ _
  rw [ok_if, ok_ret]
@[simp] theorem ok_fdivI : Ok (fdivM (.int i) (.int j)) S Q ↔ (0 < j ∧ j < 1073741824) ∧ Q (.int (i / j)) S := by
  show Ok (if _ then _ else _) S Q ↔ _
  rw [ok_if, ok_ret]
@[simp] theorem ok_modI : Ok (modM (.int i) (.int j)) S Q ↔ 0 < j ∧ Q (.int (i % j)) S := by
  show Ok (if _ then _ else _) S Q ↔ _
  rw [ok_if, ok_ret]
@[simp] theorem ok_negI : Ok (negM (.int i)) S Q ↔ Q (.int (-i)) S := ok_ret
theorem py_int (n : Nat) : D.py S (n + 1) (.int i) = some (.int i) := rfl
theorem py_bl (n : Nat) : D.py S (n + 1) (.bl a) = some (.bool a) := rfl
@[simp] theorem ok_eqI : Ok (eqM (.int i) (.int j)) S Q ↔ Q (.bl (decide (i = j))) S := by
  have e : eqM (.int i) (.int j) S = some (.bl (PyData.eqv (.int i) (.int j)), S) := rfl
  rw [ok_iff e]
  have e2 : PyData.eqv (.int i) (.int j) = decide (i = j) := by simp only [PyData.eqv]; rw [Bool.eq_iff_iff]; simp
  rw [e2]
@[simp] theorem ok_neI : Ok (neM (.int i) (.int j)) S Q ↔ Q (.bl (!decide (i = j))) S := by
  have e : neM (.int i) (.int j) S = some (.bl (!PyData.eqv (.int i) (.int j)), S) := rfl
  rw [ok_iff e]
  have e2 : PyData.eqv (.int i) (.int j) = decide (i = j) := by simp only [PyData.eqv]; rw [Bool.eq_iff_iff]; simp
  rw [e2]
@[simp] theorem ok_ltI : Ok (ltM (.int i) (.int j)) S Q ↔ Q (.bl (decide (i < j))) S := by
  have e : ltM (.int i) (.int j) S = some (.bl (PySem.W.dataLt (.int i) (.int j)), S) := by
    unfold ltM
    rw [py_int, py_int]
    dsimp only
    rw [if_pos ⟨by simp [PySem.W.alike], rfl⟩]
  rw [ok_iff e, PySem.W.dataLt_int]
@[simp] theorem ok_leI : Ok (leM (.int i) (.int j)) S Q ↔ Q (.bl (decide (i ≤ j))) S := by
  have e : leM (.int i) (.int j) S = some (.bl (!PySem.W.dataLt (.int j) (.int i)), S) := by
    unfold leM
    rw [py_int, py_int]
    dsimp only
    rw [if_pos ⟨by simp [PySem.W.alike], rfl⟩]
  rw [ok_iff e, PySem.W.dataLt_int, PySem.W.not_lt_int]
@[simp] theorem ok_gtI : Ok (gtM (.int i) (.int j)) S Q ↔ Q (.bl (decide (j < i))) S := ok_ltI
@[simp] theorem ok_geI : Ok (geM (.int i) (.int j)) S Q ↔ Q (.bl (decide (j ≤ i))) S := ok_leI
@[simp] theorem ok_isN {d : D} : Ok (isM d .non) S Q ↔ Q (.bl (isNon d)) S := by cases d <;> exact ok_ret
@[simp] theorem ok_isnN {d : D} : Ok (isnM d .non) S Q ↔ Q (.bl (!isNon d)) S := by cases d <;> exact ok_ret
@[simp] theorem ok_fInt : Ok (fInt [.int i]) S Q ↔ Q (.int i) S := ok_ret
@[simp] theorem ok_fAbs : Ok (fAbs [.int i]) S Q ↔ Q (.int (if i < 0 then -i else i)) S := ok_ret
@[simp] theorem tru_int : truD S (.int i) = some (i != 0) := rfl
@[simp] theorem tru_bl : truD S (.bl a) = some a := rfl
@[simp] theorem tru_non : truD S .non = some false := rfl
@[simp] theorem tru_tup {ds : List D} : truD S (.tup ds) = some (!ds.isEmpty) := rfl
theorem tru_lst {l : Nat} {ds : List D} (h : S[l]? = some (.lst ds)) : truD S (.lst l) = some (!ds.isEmpty) := by unfold truD; simp only [h]
end

/-! ### rows -/
section
variable {S : Store} {Q : D → Store → Prop} {l : Nat} {ds es : List D} {x y d : D}
@[simp] theorem ok_ixT {i : Int} : Ok (ixA (.tup ds) (.int i)) S Q ↔ ∃ d, atI ds i = some d ∧ Q d S := ok_map (f := id)
theorem ok_ixL (h : S[l]? = some (.lst ds)) {i : Int} : Ok (ixA (.lst l) (.int i)) S Q ↔ ∃ d, atI ds i = some d ∧ Q d S := by
  have e : ixA (.lst l) (.int i) S = (atI ds i).map fun d => (d, S) := by show (match S[l]? with | some (.lst ds) => _ | _ => none) = _; rw [h]
  constructor
  · rintro ⟨d, S', e', q⟩
    rw [e] at e'
    obtain ⟨d', h1, h2⟩ := Option.map_eq_some_iff.mp e'
    obtain ⟨rfl, rfl⟩ := Prod.mk.inj h2
    exact ⟨_, h1, q⟩
  · rintro ⟨d, h1, q⟩
    exact ⟨d, S, by rw [e, h1]; rfl, q⟩
theorem atI_nat {α : Type} {xs : List α} {k : Nat} {a : α} (h : xs[k]? = some a) : atI xs (k : Int) = some a := by
  have hl := (List.getElem?_eq_some_iff.mp h).1
  unfold atI ixN
  rw [if_pos (by omega), if_pos (by omega)]
  simpa using h
@[simp] theorem atI_0 {α : Type} {a : α} {xs : List α} : atI (a :: xs) 0 = some a := atI_nat (k := 0) rfl
@[simp] theorem atI_1 {α : Type} {a b : α} {xs : List α} : atI (a :: b :: xs) 1 = some b := atI_nat (k := 1) rfl
@[simp] theorem atI_2 {α : Type} {a b c : α} {xs : List α} : atI (a :: b :: c :: xs) 2 = some c := atI_nat (k := 2) rfl
@[simp] theorem atI_3 {α : Type} {a b c d : α} {xs : List α} : atI (a :: b :: c :: d :: xs) 3 = some d := atI_nat (k := 3) rfl
@[simp] theorem atI_4 {α : Type} {a b c d e : α} {xs : List α} : atI (a :: b :: c :: d :: e :: xs) 4 = some e := atI_nat (k := 4) rfl
@[simp] theorem atI_5 {α : Type} {a b c d e f : α} {xs : List α} : atI (a :: b :: c :: d :: e :: f :: xs) 5 = some f := atI_nat (k := 5) rfl
theorem ok_lenOf (h : seqOf S d = some ds) : Ok (fLenA [d]) S Q ↔ Q (.int ds.length) S := by
  have e : fLenA [d] S = some (.int ds.length, S) := by
    cases d with
    | dct l => cases h
    | lst l => unfold fLenA fLen; dsimp only; rw [h]
    | tup l => unfold fLenA fLen; dsimp only; rw [h]
    | fz l => unfold fLenA fLen; dsimp only; rw [h]
    | _ => cases h
  exact ok_iff e
@[simp] theorem ok_lenT : Ok (fLenA [.tup ds]) S Q ↔ Q (.int ds.length) S := ok_lenOf rfl
theorem seq_lst (h : S[l]? = some (.lst ds)) : seqOf S (.lst l) = some ds := by unfold seqOf; simp only [h]
theorem seqLv_lst (h : S[l]? = some (.lst ds)) : seqLv S (.lst l) = some (ds, [(l, .lst ds)]) := by unfold seqLv; simp only [h]
@[simp] theorem seqLv_tup : seqLv S (.tup ds) = some (ds, []) := rfl
@[simp] theorem seqLv_fz : seqLv S (.fz ds) = some (ds, []) := rfl
@[simp] theorem ok_tupT : Ok (fTuple [.tup ds]) S Q ↔ Q (.tup ds) S := ok_ret
theorem ok_tupL (h : S[l]? = some (.lst ds)) : Ok (fTuple [.lst l]) S Q ↔ Q (.tup ds) S := ok_iff (show (seqOf S (.lst l)).map _ = _ by rw [seq_lst h]; rfl)
theorem ok_listOf (h : rowOf S d = some ds) : Ok (fListA [d]) S Q ↔ Q (.lst S.length) (S ++ [.lst ds]) := by
  have e : fListA [d] S = some (.lst S.length, S ++ [.lst ds]) := by
    cases d with
    | dct l => show (rowOf S (.dct l)).map _ = _; rw [h]; rfl
    | lst l => unfold fListA fList; dsimp only; rw [show seqOf S (.lst l) = some ds from h]; rfl
    | tup l => unfold fListA fList; dsimp only; rw [show seqOf S (.tup l) = some ds from h]; rfl
    | fz l => unfold fListA fList; dsimp only; rw [show seqOf S (.fz l) = some ds from h]; rfl
    | _ => cases h
  exact ok_iff e
theorem ok_addL {m : Nat} (h : S[l]? = some (.lst ds)) (h2 : S[m]? = some (.lst es)) : Ok (addM (.lst l) (.lst m)) S Q ↔ (ds ++ es).length ≤ lim ∧ Q (.lst S.length) (S ++ [.lst (ds ++ es)]) := by
  have e : addM (.lst l) (.lst m) S = mkL (ds ++ es) S := by show (match S[l]?, S[m]? with | some (.lst a), some (.lst b) => mkL (a ++ b) S | _, _ => none) = _; rw [h, h2]
  unfold Ok
  rw [e]
  exact ok_mkL
@[simp] theorem ok_addT : Ok (addM (.tup ds) (.tup es)) S Q ↔ (ds ++ es).length ≤ lim ∧ Q (.tup (ds ++ es)) S := ok_mkT
theorem ok_append (h : S[l]? = some (.lst ds)) : Ok (appendM (.lst l) [x]) S Q ↔ ds.length < lim ∧ Q .non (S.set l (.lst (ds ++ [x]))) := by
  have e : appendM (.lst l) [x] S = if ds.length < lim then some (.non, S.set l (.lst (ds ++ [x]))) else none := by show (match S[l]? with | some (.lst ds) => _ | _ => none) = _; rw [h]
  constructor
  · rintro ⟨d, S', e', q⟩
    rw [e] at e'
    split at e'
    · obtain ⟨rfl, rfl⟩ := Prod.mk.inj (Option.some.inj e')
      exact ⟨by assumption, q⟩
    · cases e'
  · rintro ⟨h1, q⟩
    exact ⟨.non, _, by rw [e, if_pos h1], q⟩
theorem ok_extend {m : Nat} (h : S[l]? = some (.lst ds)) (h2 : S[m]? = some (.lst es)) : Ok (extendM (.lst l) [.lst m]) S Q ↔ ds.length + es.length ≤ lim ∧ Q .non (S.set l (.lst (ds ++ es))) := by
  have e : extendM (.lst l) [.lst m] S = if ds.length + es.length ≤ lim then some (.non, S.set l (.lst (ds ++ es))) else none := by show (match S[l]?, S[m]? with | some (.lst ds), some (.lst es) => _ | _, _ => none) = _; rw [h, h2]
  constructor
  · rintro ⟨d, S', e', q⟩
    rw [e] at e'
    split at e'
    · obtain ⟨rfl, rfl⟩ := Prod.mk.inj (Option.some.inj e')
      exact ⟨by assumption, q⟩
    · cases e'
  · rintro ⟨h1, q⟩
    exact ⟨.non, _, by rw [e, if_pos h1], q⟩
theorem isLst_of (h : S[l]? = some (.lst ds)) : isLst (.lst l) S = true := by unfold isLst; simp only [h]
theorem isDct_of {kvs : KV'} (h : S[l]? = some (.dct kvs)) : isDct (.dct l) S = true := by unfold isDct dictOf; simp only [h]; rfl
theorem isLD_dct {kvs : KV'} (h : S[l]? = some (.dct kvs)) : isLD (.dct l) S = true := by unfold isLD; rw [isDct_of h, Bool.or_true]
theorem isLD_lst (h : S[l]? = some (.lst ds)) : isLD (.lst l) S = true := by unfold isLD; rw [isLst_of h]; rfl
end
end VM

/-! VM20: the operations at places, as equivalences for simp -/
namespace VM
open PySem PySem.Spec PyProof.Rows L2

section
variable {α : Type} {S : Store} {l m : Nat} {x y d : D}
theorem ok_lstCase {f : List D → Option (α × Store)} {Q : α → Store → Prop} : Ok (fun S => match S[l]? with | some (.lst ds) => f ds | _ => none) S Q ↔ ∃ ds, S[l]? = some (.lst ds) ∧ Ok (fun _ => f ds) S Q := by
  unfold Ok
  cases h : S[l]? with
  | none => simp [h]
  | some o => cases o <;> simp [h]
theorem ok_someS {a : α} {S' : Store} {Q : α → Store → Prop} : Ok (fun _ => some (a, S')) S Q ↔ Q a S' := ok_iff rfl
@[simp] theorem ok_ixLs {i : Int} {Q : D → Store → Prop} : Ok (ixA (.lst l) (.int i)) S Q ↔ ∃ ds, S[l]? = some (.lst ds) ∧ ∃ d, atI ds i = some d ∧ Q d S := by
  constructor
  · rintro ⟨d, S', e, q⟩
    have e : (match S[l]? with | some (.lst ds) => (atI ds i).map fun d => (d, S) | _ => none) = some (d, S') := e
    split at e
    · rename_i ds h
      obtain ⟨d', h1, h2⟩ := Option.map_eq_some_iff.mp e
      obtain ⟨rfl, rfl⟩ := Prod.mk.inj h2
      exact ⟨ds, h, _, h1, q⟩
    · cases e
  · rintro ⟨ds, h, d, h1, q⟩
    exact (ok_ixL h).mpr ⟨d, h1, q⟩
@[simp] theorem ok_appendLs {Q : D → Store → Prop} : Ok (appendM (.lst l) [x]) S Q ↔ ∃ ds, S[l]? = some (.lst ds) ∧ ds.length < lim ∧ Q .non (S.set l (.lst (ds ++ [x]))) := by
  constructor
  · rintro ⟨d, S', e, q⟩
    have e : (match S[l]? with | some (.lst ds) => if ds.length < lim then some (.non, S.set l (.lst (ds ++ [x]))) else none | _ => none) = some (d, S') := e
    split at e
    · rename_i ds h
      split at e
      · obtain ⟨rfl, rfl⟩ := Prod.mk.inj (Option.some.inj e)
        exact ⟨ds, h, by assumption, q⟩
      · cases e
    · cases e
  · rintro ⟨ds, h, h1, q⟩
    exact (ok_append h).mpr ⟨h1, q⟩
@[simp] theorem ok_setLs {i : Int} {Q : Unit → Store → Prop} : Ok (setA (.lst l) (.int i) x) S Q ↔ ∃ ds, S[l]? = some (.lst ds) ∧ ∃ k, ixN ds.length i = some k ∧ Q () (S.set l (.lst (ds.set k x))) := by
  have e0 : setA (.lst l) (.int i) x S = (match S[l]? with | some (.lst ds) => (ixN ds.length i).map fun k => ((), S.set l (.lst (ds.set k x))) | _ => none) := rfl
  constructor
  · rintro ⟨d, S', e, q⟩
    rw [e0] at e
    split at e
    · rename_i ds h
      obtain ⟨k, h1, h2⟩ := Option.map_eq_some_iff.mp e
      obtain ⟨rfl, rfl⟩ := Prod.mk.inj h2
      exact ⟨ds, h, k, h1, q⟩
    · cases e
  · rintro ⟨ds, h, k, h1, q⟩
    exact ⟨(), _, by rw [e0, h]; dsimp only; rw [h1]; rfl, q⟩
@[simp] theorem tru_lsts {k : Bool} : truD S (.lst l) = some k ↔ ∃ ds, S[l]? = some (.lst ds) ∧ k = !ds.isEmpty := by
  unfold truD
  cases h : S[l]? with
  | none => simp [h]
  | some o =>
    cases o with
    | dct _ => simp [h]
    | dlk _ => simp [h]
    | lst ds => simp only [Option.some.injEq, h, Ob.lst.injEq]; exact ⟨fun e => ⟨ds, rfl, e.symm⟩, fun ⟨_, e1, e2⟩ => by subst e1; exact e2.symm⟩
@[simp] theorem isLst_lsts : isLst (.lst l) S = true ↔ ∃ ds, S[l]? = some (.lst ds) := by
  unfold isLst
  cases h : S[l]? with
  | none => simp [h]
  | some o => cases o <;> simp [h]
@[simp] theorem seqLv_lsts {p : List D × Lv} : seqLv S (.lst l) = some p ↔ ∃ ds, S[l]? = some (.lst ds) ∧ p = (ds, [(l, .lst ds)]) := by
  unfold seqLv
  cases h : S[l]? with
  | none => simp [h]
  | some o =>
    cases o with
    | dct _ => simp [h]
    | dlk _ => simp [h]
    | lst ds => simp only [Option.some.injEq, h, Ob.lst.injEq]; exact ⟨fun e => ⟨ds, rfl, e.symm⟩, fun ⟨_, e1, e2⟩ => by subst e1; exact e2.symm⟩
@[simp] theorem ok_lenLs {Q : D → Store → Prop} : Ok (fLenA [.lst l]) S Q ↔ ∃ ds, S[l]? = some (.lst ds) ∧ Q (.int ds.length) S := by
  constructor
  · rintro ⟨d, S', e, q⟩
    have e : (match seqOf S (.lst l) with | some ds => some (D.int ds.length, S) | none => none) = some (d, S') := e
    cases h : S[l]? with
    | none => rw [show seqOf S (.lst l) = none by unfold seqOf; simp only [h]] at e; cases e
    | some o =>
      cases o with
      | dct _ => rw [show seqOf S (.lst l) = none by unfold seqOf; simp only [h]] at e; cases e
      | dlk _ => rw [show seqOf S (.lst l) = none by unfold seqOf; simp only [h]] at e; cases e
      | lst ds =>
        rw [seq_lst h] at e
        obtain ⟨rfl, rfl⟩ := Prod.mk.inj (Option.some.inj e)
        exact ⟨ds, rfl, q⟩
  · rintro ⟨ds, h, q⟩
    exact (ok_lenOf (seq_lst h)).mpr q
end
theorem ixN_nat {n k : Nat} (h : k < n) : ixN n (k : Int) = some k := by
  unfold ixN
  rw [if_pos (by omega), if_pos (by omega)]
  simp
/-! ### slices, calls -/
section
variable {S : Store} {ρ : Env} {Q : D → Store → Prop} {QO : Option Int → Store → Prop} {me : EM} {ml mh : OM}
@[simp] theorem ok_oNone : Ok (oNone ρ) S QO ↔ QO none S := ok_ret
@[simp] theorem ok_oSome : Ok (oSome me ρ) S QO ↔ Ok (me ρ) S fun d S1 => ∃ i, d = .int i ∧ QO (some i) S1 := by
  unfold oSome
  rw [ok_bnd]
  constructor
  · exact fun h => h.imp fun d S1 q => by cases d <;> simp_all
  · exact fun h => h.imp fun d S1 ⟨i, e, q⟩ => by subst e; simpa using q
@[simp] theorem ok_mSl : Ok (mSl me ml mh ρ) S Q ↔ Ok (me ρ) S fun x S1 => Ok (ml ρ) S1 fun lo S2 => Ok (mh ρ) S2 fun hi S3 => Ok (slM x lo hi) S3 Q := by unfold mSl; simp only [ok_bnd]
@[simp] theorem ok_slT {ds : List D} {lo hi : Option Int} : Ok (slM (.tup ds) lo hi) S Q ↔ Q (.tup (cutD ds lo hi)) S := ok_ret
@[simp] theorem ok_slF {ds : List D} {lo hi : Option Int} : Ok (slM (.fz ds) lo hi) S Q ↔ Q (.lst S.length) (S ++ [.lst (cutD ds lo hi)]) := ok_iff rfl
@[simp] theorem ok_slLs {l : Nat} {lo hi : Option Int} : Ok (slM (.lst l) lo hi) S Q ↔ ∃ ds, S[l]? = some (.lst ds) ∧ Q (.lst S.length) (S ++ [.lst (cutD ds lo hi)]) := by
  constructor
  · rintro ⟨d, S', e, q⟩
    have e : (match S[l]? with | some (.lst ds) => some (D.lst S.length, S ++ [Ob.lst (cutD ds lo hi)]) | _ => none) = some (d, S') := e
    split at e
    · rename_i ds h
      obtain ⟨rfl, rfl⟩ := Prod.mk.inj (Option.some.inj e)
      exact ⟨ds, h, q⟩
    · cases e
  · rintro ⟨ds, h, q⟩
    exact ⟨_, _, by show (match S[l]? with | some (.lst ds) => some (D.lst S.length, S ++ [Ob.lst (cutD ds lo hi)]) | _ => none) = _; rw [h], q⟩
theorem cut_hi {ds : List D} {k : Nat} : cutD ds none (some (k : Int)) = ds.take k := by
  unfold cutD
  rw [HT.sIx_nat, HT.sIx_none]
  simp [List.take_eq_take_iff]
theorem cut_lo {ds : List D} {k : Nat} : cutD ds (some (k : Int)) none = ds.drop k := by
  unfold cutD
  rw [HT.sIx_nat, HT.sIx_none]
  by_cases h : k ≤ ds.length
  · rw [Nat.min_eq_left h, List.take_of_length_le (by rw [List.length_drop]; omega)]
  · rw [Nat.min_eq_right (by omega), Nat.sub_self, List.take_zero, List.drop_eq_nil_of_le (by omega)]
@[simp] theorem set_get_self {S : Store} {l : Nat} {o : Ob} : (S.set l o)[l]? = (S[l]?).map fun _ => o := by
  by_cases h : l < S.length
  · rw [List.getElem?_set_self h, List.getElem?_eq_getElem h]; rfl
  · rw [List.getElem?_eq_none (by rw [List.length_set]; omega), List.getElem?_eq_none (by omega)]; rfl
@[simp] theorem get_app_last {S : Store} {o : Ob} : (S ++ [o])[S.length]? = some o := get_last
end
end VM

/-! VM21: rows of numbers and of pairs -/
namespace VM
open PySem PySem.Spec PyProof.Rows L2
open PySem.W (dataLe dataLt)

def natD (L : List Nat) : List D := L.map fun (x : Nat) => D.int (x : Int)
def eD (p : Nat × Nat) : D := .tup [.int (p.1 : Int), .int (p.2 : Int)]
def prD (L : List (Nat × Nat)) : List D := L.map eD
@[simp] theorem natD_length {L : List Nat} : (natD L).length = L.length := by unfold natD; rw [List.length_map]
@[simp] theorem prD_length {L : List (Nat × Nat)} : (prD L).length = L.length := by unfold prD; rw [List.length_map]
@[simp] theorem natD_nil : natD [] = [] := rfl
@[simp] theorem prD_nil : prD [] = [] := rfl
@[simp] theorem natD_cons {x : Nat} {L : List Nat} : natD (x :: L) = .int (x : Int) :: natD L := rfl
@[simp] theorem prD_cons {p : Nat × Nat} {L : List (Nat × Nat)} : prD (p :: L) = eD p :: prD L := rfl
@[simp] theorem natD_append {L M : List Nat} : natD (L ++ M) = natD L ++ natD M := List.map_append
@[simp] theorem prD_append {L M : List (Nat × Nat)} : prD (L ++ M) = prD L ++ prD M := List.map_append
theorem natD_get {L : List Nat} {i x : Nat} (h : L[i]? = some x) : (natD L)[i]? = some (.int (x : Int)) := by unfold natD; rw [List.getElem?_map, h]; rfl
theorem prD_get {L : List (Nat × Nat)} {i : Nat} {p : Nat × Nat} (h : L[i]? = some p) : (prD L)[i]? = some (eD p) := by unfold prD; rw [List.getElem?_map, h]; rfl
theorem natD_take {L : List Nat} {k : Nat} : (natD L).take k = natD (L.take k) := by unfold natD; rw [List.map_take]
theorem rowD_nat {n : Nat} : rowD 0 n = natD (List.range n) := by
  unfold rowD natD
  refine List.map_congr_left fun x _ => ?_
  rw [Int.zero_add]
theorem numD_nat : ∀ {L : List Nat} {k : Nat}, numD k (natD L) = (L.zipIdx k).map fun p => D.pr [.int (p.2 : Int), .int (p.1 : Int)]
  | [], _ => rfl
  | x :: L, k => by
    show D.pr [.int (k : Int), .int (x : Int)] :: numD (k + 1) (natD L) = _
    rw [numD_nat]
    rfl
/-- what splits a row of numbers, of pairs -/
theorem natD_split {L : List Nat} {pre post : List D} {d : D} (h : natD L = pre ++ d :: post) : ∃ (L1 : List Nat) (x : Nat) (L2 : List Nat), L = L1 ++ x :: L2 ∧ pre = natD L1 ∧ d = .int (x : Int) ∧ post = natD L2 := by
  obtain ⟨A, B, e1, e2, e3⟩ := List.map_eq_append_iff.mp h
  obtain ⟨x, C, e4, e5, e6⟩ := List.map_eq_cons_iff.mp e3
  exact ⟨A, x, C, by rw [e1, e4], e2.symm, e5.symm, e6.symm⟩
theorem prD_split {L : List (Nat × Nat)} {pre post : List D} {d : D} (h : prD L = pre ++ d :: post) : ∃ L1 p L2, L = L1 ++ p :: L2 ∧ pre = prD L1 ∧ d = eD p ∧ post = prD L2 := by
  obtain ⟨A, B, e1, e2, e3⟩ := List.map_eq_append_iff.mp h
  obtain ⟨x, C, e4, e5, e6⟩ := List.map_eq_cons_iff.mp e3
  exact ⟨A, x, C, by rw [e1, e4], e2.symm, e5.symm, e6.symm⟩
theorem eD_inj {p q : Nat × Nat} : eD p = eD q ↔ p = q := by
  constructor
  · intro h
    obtain ⟨a, b⟩ := p
    obtain ⟨c, d⟩ := q
    simp only [eD, D.tup.injEq, List.cons.injEq, D.int.injEq, and_true] at h
    rw [Prod.mk.injEq]
    omega
  · rintro rfl; rfl
theorem natD_inj {L M : List Nat} : natD L = natD M ↔ L = M := by
  constructor
  · intro h
    unfold natD at h
    exact (List.map_inj_right (fun x y e => by have e2 : (x : Int) = (y : Int) := D.int.inj e; omega)).mp h
  · rintro rfl; rfl
theorem prD_inj {L M : List (Nat × Nat)} : prD L = prD M ↔ L = M := by
  constructor
  · intro h
    exact (List.map_inj_right (fun x y e => eD_inj.mp e)).mp h
  · rintro rfl; rfl

/-! ### as data -/
def pI (x : Nat) : PyData := .int (x : Int)
def pE (p : Nat × Nat) : PyData := .tuple [.int (p.1 : Int), .int (p.2 : Int)]
section
variable {S : Store} {n : Nat}
theorem py_eD {p : Nat × Nat} : D.py S (n + 2) (eD p) = some (pE p) := rfl
theorem pyL_nat : ∀ {L : List Nat}, pyL (D.py S (n + 1)) (natD L) = some (L.map pI)
  | [] => rfl
  | x :: L => by rw [natD_cons, pyL, pyL_nat, py_int]; rfl
theorem pyL_pr : ∀ {L : List (Nat × Nat)}, pyL (D.py S (n + 2)) (prD L) = some (L.map pE)
  | [] => rfl
  | p :: L => by rw [prD_cons, pyL, pyL_pr, py_eD]; rfl
theorem eqv_pI {x y : Nat} : PyData.eqv (pI x) (pI y) = decide (x = y) := by
  simp only [pI, PyData.eqv]
  rw [Bool.eq_iff_iff]
  simp
  omega
theorem eqv_pE {p q : Nat × Nat} : PyData.eqv (pE p) (pE q) = decide (p = q) := by
  obtain ⟨a, b⟩ := p
  obtain ⟨c, d⟩ := q
  simp only [pE, PyData.eqv, PyData.eqvAll]
  rw [Bool.eq_iff_iff]
  simp
  omega
theorem any_pI {x : Nat} {L : List Nat} : (L.map pI).any (fun y => PyData.eqv y (pI x)) = decide (x ∈ L) := by
  rw [Bool.eq_iff_iff, List.any_map, List.any_eq_true]
  simp [eqv_pI]
theorem any_pE {p : Nat × Nat} {L : List (Nat × Nat)} : (L.map pE).any (fun y => PyData.eqv y (pE p)) = decide (p ∈ L) := by
  rw [Bool.eq_iff_iff, List.any_map, List.any_eq_true]
  simp [eqv_pE]
theorem has_nat {x : Nat} {L : List Nat} : hasM (.int (x : Int)) (natD L) S = some (decide (x ∈ L)) := by
  unfold hasM
  rw [py_int, pyL_nat]
  dsimp only
  rw [← any_pI]
  rfl
theorem has_pr {p : Nat × Nat} {L : List (Nat × Nat)} : hasM (eD p) (prD L) S = some (decide (p ∈ L)) := by
  unfold hasM
  rw [py_eD, pyL_pr]
  dsimp only
  rw [← any_pE]
variable {Q : D → Store → Prop} {l : Nat}
theorem ok_inOf {x d : D} {ds : List D} {b : Bool} (h : seqOf S d = some ds) (hb : hasM x ds S = some b) : (Ok (inA x d) S Q ↔ Q (.bl b) S) ∧ (Ok (ninA x d) S Q ↔ Q (.bl (!b)) S) := by
  have e1 : inA x d S = some (.bl b, S) := by
    cases d with
    | lst l => show inM x (.lst l) S = _; unfold inM; rw [h]; dsimp only; rw [hb]; rfl
    | tup l => show inM x (.tup l) S = _; unfold inM; rw [h]; dsimp only; rw [hb]; rfl
    | fz l => show inM x (.fz l) S = _; unfold inM; rw [h]; dsimp only; rw [hb]; rfl
    | _ => cases h
  have e2 : ninA x d S = some (.bl (!b), S) := by
    cases d with
    | lst l => show ninM x (.lst l) S = _; unfold ninM; rw [h]; dsimp only; rw [hb]; rfl
    | tup l => show ninM x (.tup l) S = _; unfold ninM; rw [h]; dsimp only; rw [hb]; rfl
    | fz l => show ninM x (.fz l) S = _; unfold ninM; rw [h]; dsimp only; rw [hb]; rfl
    | _ => cases h
  exact ⟨ok_iff e1, ok_iff e2⟩
@[simp] theorem ok_inPr {p : Nat × Nat} {L : List (Nat × Nat)} : Ok (inA (eD p) (.tup (prD L))) S Q ↔ Q (.bl (decide (p ∈ L))) S := (ok_inOf rfl has_pr).1
@[simp] theorem ok_ninPr {p : Nat × Nat} {L : List (Nat × Nat)} : Ok (ninA (eD p) (.tup (prD L))) S Q ↔ Q (.bl (!decide (p ∈ L))) S := (ok_inOf rfl has_pr).2
theorem ok_inPrL {p : Nat × Nat} {L : List (Nat × Nat)} (h : S[l]? = some (.lst (prD L))) : Ok (inA (eD p) (.lst l)) S Q ↔ Q (.bl (decide (p ∈ L))) S := (ok_inOf (seq_lst h) has_pr).1
theorem ok_ninPrL {p : Nat × Nat} {L : List (Nat × Nat)} (h : S[l]? = some (.lst (prD L))) : Ok (ninA (eD p) (.lst l)) S Q ↔ Q (.bl (!decide (p ∈ L))) S := (ok_inOf (seq_lst h) has_pr).2
theorem ok_inNL {x : Nat} {L : List Nat} (h : S[l]? = some (.lst (natD L))) : Ok (inA (.int (x : Int)) (.lst l)) S Q ↔ Q (.bl (decide (x ∈ L))) S := (ok_inOf (seq_lst h) has_nat).1
theorem ok_ninNL {x : Nat} {L : List Nat} (h : S[l]? = some (.lst (natD L))) : Ok (ninA (.int (x : Int)) (.lst l)) S Q ↔ Q (.bl (!decide (x ∈ L))) S := (ok_inOf (seq_lst h) has_nat).2
end

/-! ### sorted -/
def leN (x y : Nat) : Bool := decide (x ≤ y)
def leP (p q : Nat × Nat) : Bool := decide (p.1 < q.1 ∨ (p.1 = q.1 ∧ p.2 ≤ q.2))
section
variable {S : Store}
theorem enc_nat {x : Nat} : encD S (.int (x : Int)) = pI x := rfl
theorem enc_eD {p : Nat × Nat} : encD S (eD p) = pE p := rfl
theorem le_nat {x y : Nat} : dataLe false (encD S) (.int (x : Int)) (.int (y : Int)) = leN x y := by
  rw [PySem.W.dataLe_eq]
  show (!dataLt (.int (y : Int)) (.int (x : Int))) = _
  rw [PySem.W.dataLt_int, PySem.W.not_lt_int]
  unfold leN
  rw [Bool.eq_iff_iff]
  simp
theorem le_pr {p q : Nat × Nat} : dataLe false (encD S) (eD p) (eD q) = leP p q := by
  rw [PySem.W.dataLe_eq]
  show (!dataLt (.tuple [.int (q.1 : Int), .int (q.2 : Int)]) (.tuple [.int (p.1 : Int), .int (p.2 : Int)])) = _
  rw [PySem.W.dataLt_ii]
  unfold leP
  rw [Bool.eq_iff_iff]
  simp
  omega
theorem sortOk_nat {L : List Nat} : sortOk (L.map pI) = true := by
  unfold sortOk
  rw [Bool.and_eq_true, Bool.or_eq_true]
  refine ⟨?_, .inr ?_⟩
  · simp [List.all_eq_true, pI, PySem.W.alike]
  · simp [List.all_eq_true, pI, isPlain]
theorem sortOk_pr {L : List (Nat × Nat)} : sortOk (L.map pE) = true := by
  unfold sortOk
  rw [Bool.and_eq_true, Bool.or_eq_true]
  refine ⟨?_, .inl ?_⟩
  · simp [List.all_eq_true, pE, PySem.W.alike, PySem.W.alikeAll]
  · simp [List.all_eq_true, pE, isTup1]
theorem sortD_nat {L : List Nat} (h : L.length ≤ lim) : sortD S (natD L) = some (natD (L.mergeSort leN)) := by
  have e : (natD L).map (encD S) = L.map pI := by unfold natD; rw [List.map_map]; rfl
  have a : (natD L).all (fun d => (D.py S 9 d).isSome) = true := by unfold natD; simp [List.all_eq_true, D.py]
  unfold sortD
  rw [e, a, sortOk_nat, natD_length, decide_eq_true h, if_pos (by rfl)]
  congr 1
  exact (List.map_mergeSort (f := fun (x : Nat) => D.int (x : Int)) (r := leN) (s := dataLe false (encD S)) (l := L) fun a _ b _ => le_nat.symm).symm
theorem sortD_pr {L : List (Nat × Nat)} (h : L.length ≤ lim) : sortD S (prD L) = some (prD (L.mergeSort leP)) := by
  have e : (prD L).map (encD S) = L.map pE := by unfold prD; rw [List.map_map]; rfl
  have a : (prD L).all (fun d => (D.py S 9 d).isSome) = true := by unfold prD; rw [List.all_map, List.all_eq_true]; intro p _; rfl
  unfold sortD
  rw [e, a, sortOk_pr, prD_length, decide_eq_true h, if_pos (by rfl)]
  congr 1
  exact (List.map_mergeSort (f := eD) (r := leP) (s := dataLe false (encD S)) (l := L) fun a _ b _ => le_pr.symm).symm
theorem ok_sortedOf {d : D} {ds es : List D} {Q : D → Store → Prop} (h : rowOf S d = some ds) (he : sortD S ds = some es) : Ok (fSorted [d]) S Q ↔ Q (.lst S.length) (S ++ [.lst es]) :=
  ok_iff (by show (match rowOf S d with | some ds => (sortD S ds).map fun es => (D.lst S.length, S ++ [Ob.lst es]) | none => none) = _; rw [h]; dsimp only; rw [he]; rfl)
end
/-- two rows that rise and hold the same are the same -/
theorem rise_eq {α : Type} {lt : α → α → Prop} (irr : ∀ a, ¬ lt a a) (asy : ∀ a b, lt a b → ¬ lt b a) {L M : List α} (h1 : L.Pairwise lt) (h2 : M.Pairwise lt) (h : ∀ a, a ∈ L ↔ a ∈ M) : L = M := by
  have n1 : L.Nodup := h1.imp fun {a b} q (e : a = b) => irr a (by rw [← e] at q; exact q)
  have n2 : M.Nodup := h2.imp fun {a b} q (e : a = b) => irr a (by rw [← e] at q; exact q)
  exact List.Perm.eq_of_pairwise (fun a b _ _ q1 q2 => absurd q2 (asy a b q1)) h1 h2 ((List.perm_ext_iff_of_nodup n1 n2).mpr h)
def ltP (p q : Nat × Nat) : Prop := p.1 < q.1 ∨ (p.1 = q.1 ∧ p.2 < q.2)
theorem sort_nat {L M : List Nat} (nd : L.Nodup) (hM : M.Pairwise (· < ·)) (h : ∀ x, x ∈ L ↔ x ∈ M) : L.mergeSort leN = M := by
  refine rise_eq (lt := (· < ·)) (fun a => Nat.lt_irrefl a) (fun a b q r => by omega) ?_ hM fun x => by rw [(List.mergeSort_perm L leN).mem_iff]; exact h x
  have p := List.pairwise_mergeSort (le := leN) (fun a b c q r => by simp only [leN, decide_eq_true_eq] at *; omega) (fun a b => by simp only [leN, Bool.or_eq_true, decide_eq_true_eq]; omega) L
  have n : (L.mergeSort leN).Nodup := (List.mergeSort_perm L leN).nodup_iff.mpr nd
  exact (p.and n).imp fun {a b} q => by simp only [leN, decide_eq_true_eq] at q; have := q.2; omega
theorem sort_pr {L M : List (Nat × Nat)} (nd : L.Nodup) (hM : M.Pairwise ltP) (h : ∀ p, p ∈ L ↔ p ∈ M) : L.mergeSort leP = M := by
  refine rise_eq (lt := ltP) (fun a q => by unfold ltP at q; omega) (fun a b q r => by unfold ltP at q r; omega) ?_ hM fun x => by rw [(List.mergeSort_perm L leP).mem_iff]; exact h x
  have p := List.pairwise_mergeSort (le := leP) (fun a b c q r => by simp only [leP, decide_eq_true_eq] at *; omega) (fun a b => by simp only [leP, Bool.or_eq_true, decide_eq_true_eq]; omega) L
  have n : (L.mergeSort leP).Nodup := (List.mergeSort_perm L leP).nodup_iff.mpr nd
  refine (p.and n).imp fun {a b} q => ?_
  simp only [leP, decide_eq_true_eq] at q
  obtain ⟨q1, q2⟩ := q
  obtain ⟨a1, a2⟩ := a
  obtain ⟨b1, b2⟩ := b
  have q3 : ¬ (a1 = b1 ∧ a2 = b2) := fun ⟨e1, e2⟩ => q2 (by rw [e1, e2])
  unfold ltP
  simp only at q1 ⊢
  omega
/-! ### loops, what is behind them hidden -/
section
variable {lv : Lv} {g : GM} {body : SM} {t : TM} {me mk mv : EM} {ds : List D} {ρ : Env} {S : Store}
theorem ok_for' (I : List D → Env → Store → Prop) {Q : Out → Store → Prop} (h0 : I [] ρ S) (hl : ∀ pre ρ S, I pre ρ S → Live lv S)
    (hs : ∀ pre d post ρ S (N : Env → Store → Prop) (Q : Out → Store → Prop), ds = pre ++ d :: post → I pre ρ S → (∀ ρ2 S2, I (pre ++ [d]) ρ2 S2 → N ρ2 S2) → Ok (g d ρ) S fun ρ1 S1 => Ok (body ρ1) S1 (afterB N Q))
    (he : ∀ ρ S, I ds ρ S → Q (.nx ρ) S) : Ok (forM lv g body ds ρ) S Q :=
  ok_for I h0 hl (fun pre d post ρ S e i => hs pre d post ρ S _ Q e i fun _ _ h => h) he
theorem ok_comp' (I : List D → List D → Store → Prop) {Q : List D → Store → Prop} (h0 : I [] [] S) (hl : ∀ pre acc S, I pre acc S → Live lv S)
    (hs : ∀ pre d post acc S (N : List D → Store → Prop), ds = pre ++ d :: post → I pre acc S → (∀ acc2 S2, I (pre ++ [d]) acc2 S2 → N acc2 S2) → Ok (g d ρ) S fun ρ1 S1 => Ok (t ρ1) S1 fun b S2 => if b = true then Ok (me ρ1) S2 fun y S3 => N (acc ++ [y]) S3 else N acc S2)
    (he : ∀ acc S, I ds acc S → Q acc S) : Ok (compGo lv g t me ρ ds) S Q :=
  ok_comp I h0 hl (fun pre d post acc S e i => hs pre d post acc S (I (pre ++ [d])) e i fun _ _ h => h) he
theorem ok_dcomp' (I : List D → KV' → Store → Prop) {Q : KV' → Store → Prop} (h0 : I [] [] S) (hl : ∀ pre acc S, I pre acc S → Live lv S)
    (hs : ∀ pre d post acc S (N : KV' → Store → Prop), ds = pre ++ d :: post → I pre acc S → (∀ acc2 S2, I (pre ++ [d]) acc2 S2 → N acc2 S2) → Ok (g d ρ) S fun ρ1 S1 => Ok (t ρ1) S1 fun b S2 => if b = true then Ok (mk ρ1) S2 fun k S3 => Ok (mv ρ1) S3 fun v S4 => Ok (putM acc k v) S4 fun acc' S5 => N acc' S5 else N acc S2)
    (he : ∀ acc S, I ds acc S → Q acc S) : Ok (dcGo lv g t mk mv ρ ds []) S Q :=
  ok_dcomp I h0 hl (fun pre d post acc S e i => hs pre d post acc S (I (pre ++ [d])) e i fun _ _ h => h) he
/-- a filter: nothing is laid on the way -/
theorem ok_pick {α : Type} {f : α → D} {p : α → Bool} {h : α → D} {L : List α} {Q : List D → Store → Prop} (hl : Live lv S)
    (hs : ∀ a ∈ L, ∀ N : Option D → Store → Prop, N (if p a = true then some (h a) else none) S → Ok (g (f a) ρ) S fun ρ1 S1 => Ok (t ρ1) S1 fun b S2 => if b = true then Ok (me ρ1) S2 fun y S3 => N (some y) S3 else N none S2)
    (he : Q ((L.filter p).map h) S) : Ok (compGo lv g t me ρ (L.map f)) S Q := by
  refine ok_comp (fun pre acc S1 => ∃ L1 L2, L = L1 ++ L2 ∧ pre = L1.map f ∧ acc = (L1.filter p).map h ∧ S1 = S) ⟨[], L, rfl, rfl, rfl, rfl⟩ (fun pre acc S1 ⟨_, _, _, _, _, e⟩ => by rw [e]; exact hl) ?_ ?_
  · rintro pre d post acc S1 e ⟨L1, L2, e1, rfl, rfl, rfl⟩
    have e' := e
    rw [e1, List.map_append] at e'
    obtain e2 := List.append_cancel_left e'
    cases L2 with
    | nil => cases e2
    | cons a L2 =>
      rw [List.map_cons] at e2
      obtain ⟨rfl, e3⟩ := List.cons.inj e2
      have key := hs a (by rw [e1]; simp) (fun o S' => ∃ L1' L2', L = L1' ++ L2' ∧ L1.map f ++ [f a] = L1'.map f ∧ ((L1.filter p).map h ++ o.toList) = (L1'.filter p).map h ∧ S' = S1) ⟨L1 ++ [a], L2, by rw [e1]; simp, by simp, by by_cases c : p a = true <;> simp [c], rfl⟩
      refine key.imp fun ρ1 S2 q => q.imp fun b S3 q => ?_
      cases b with
      | true =>
        simp only [if_true] at q ⊢
        refine q.imp fun y S4 ⟨M1, M2, a1, a2, a3, a4⟩ => ⟨M1, M2, a1, a2, by simpa using a3, a4⟩
      | false =>
        simp only [Bool.false_eq_true, if_false] at q ⊢
        obtain ⟨M1, M2, a1, a2, a3, a4⟩ := q
        exact ⟨M1, M2, a1, a2, by simpa using a3, a4⟩
  · rintro acc S1 ⟨L1, L2, e1, e2, rfl, rfl⟩
    have : L2 = [] := by
      have l1 := congrArg List.length e1
      have l2 := congrArg List.length e2
      rw [List.length_append] at l1
      rw [List.length_map, List.length_map] at l2
      exact List.eq_nil_of_length_eq_zero (by omega)
    rw [this, List.append_nil] at e1
    subst e1
    exact he
end
end VM

/-! VM22: xs[::-1], xs.index(i), xs.remove(i) for whole numbers -/
namespace VM
open PySem PySem.Spec PyProof.Rows L2
open HT (sliceApplied_gen)
section
variable {prog : Program} {w : World} {A : Around} {E : Value → Shared → Prop} {s : Shared}
theorem adjust_rev (n : Nat) : Builtin.Slice.sliceAdjust none none (-1) (n : Int) = ((n : Int) - 1, -1) := by
  unfold Builtin.Slice.sliceAdjust
  simp
theorem places_rev (n : Nat) : Builtin.Slice.slicePlaces ((n : Int) - 1) (-1) (-1) = n := by
  unfold Builtin.Slice.slicePlaces
  simp
  omega
theorem pick_rev (xs : Array Value) : ((List.range xs.size).filterMap fun (m : Nat) => xs[((xs.size : Int) - 1 + (m : Int) * -1).toNat]?).toArray = xs.toList.reverse.toArray := by
  congr 1
  rw [← PySem.W.krv_all xs, ← List.filterMap_reverse, ← PySem.W.krv_range, List.filterMap_map]
  have go : ∀ L : List Nat, (∀ m ∈ L, m < xs.size) → L.filterMap (fun (m : Nat) => xs[((xs.size : Int) - 1 + (m : Int) * -1).toNat]?) = L.filterMap ((fun k => xs[k]?) ∘ fun k => xs.size - 1 - k) := by
    intro L
    induction L with
    | nil => intro _; rfl
    | cons m L ih =>
      intro h
      have hm := h m (List.mem_cons_self ..)
      have e : ((xs.size : Int) - 1 + (m : Int) * -1).toNat = xs.size - 1 - m := by omega
      rw [List.filterMap_cons, List.filterMap_cons, ih fun k hk => h k (List.mem_cons_of_mem _ hk), e]
      rfl
  exact go _ fun m hm => List.mem_range.mp hm
theorem getItem_tuple_rev {t sl : Addr} {items : Array Value} {vl vu vs : Value} {Q : Value → Shared → Prop} (ht : IsTup s.heap t items) (hs : s.heap.IsSliceOf sl vl vu vs) (pl : IsPart vl none) (pu : IsPart vu none) (pk : IsPart vs (some (-1)))
    (h : Q (.ref s.heap.objs.size) { s with heap := s.heap.push { cls := .type "tuple", data := .seq items.toList.reverse.toArray } })
    (hsz : items.size ≤ sizeLine) : wpAny (model prog w) A (getItem (.ref t) (.ref sl)) Q E s := by
  have htake : sizeOk (.seq items.toList.reverse.toArray) := by
    show items.toList.reverse.toArray.size ≤ sizeLine
    rw [List.size_toArray, List.length_reverse, Array.length_toList]
    omega
  obtain ⟨os, hos, hcs, hds⟩ := id hs
  have hTs : s.TypeIs (.ref sl) "slice" := ⟨os, hos, hcs⟩
  unfold getItem
  try with_reducible refine wpAny_holding ?_
  first | refine wpAny_bind (wpAny_pure ?_) | skip
  refine wpAny_bind (wpAny_sequenceKey ht.typeIs (by decide) ?_)
  refine wpAny_bind (wpAny_callSpecial?_slot (name := Str.ofString "__getitem__") ht.typeIs PyProof.Rows.slot_tuple_getitem
    (wpAny_call_entry PyProof.Rows.slot_tuple_getitem ht.typeIs PyProof.Rows.entry_tuple_getitem ?_ (PyProof.Rows.args_tuple_getitem _ _)))
  show wpAny _ _ (Builtin.Tuple.tupleItemsOf (.ref t) >>= _) _ _ s
  refine wpAny_bind (PyProof.Rows.tupleItemsOf_ ht ?_)
  refine wpAny_bind (wpAny_typeOf hTs ?_)
  rw [if_pos (by decide)]
  refine wpAny_bind (?_ : wpAny _ _ (Builtin.Slice.sliceApplied (.ref sl) (pure (items.size : Int))) _ _ s)
  unfold Builtin.Slice.sliceApplied Builtin.Slice.sliceFields
  refine wpAny_bind (wpAny_bind (wpAny_field hos hds (x := vl) rfl (wpAny_bind (wpAny_field hos hds (x := vu) rfl (wpAny_bind (wpAny_field hos hds (x := vs) rfl (wpAny_pure ?_)))))))
  refine wpAny_bind (HT.slicePart_ pk ?_)
  show wpAny _ _ (if ((-1 : Int) == 0) = true then _ else _) _ _ s
  rw [if_neg (by decide)]
  refine wpAny_bind (HT.slicePart_ pl (wpAny_bind (HT.slicePart_ pu (wpAny_bind (wpAny_pure ?_)))))
  show wpAny _ _ (match Builtin.Slice.sliceAdjust none none (-1) (items.size : Int) with | (lo, hi) => pure (lo, (-1 : Int), Builtin.Slice.slicePlaces lo hi (-1))) _ _ s
  rw [adjust_rev]
  show wpAny _ _ (pure ((items.size : Int) - 1, (-1 : Int), Builtin.Slice.slicePlaces ((items.size : Int) - 1) (-1) (-1))) _ _ s
  rw [places_rev]
  refine wpAny_pure ?_
  have hno : ¬ ((((items.size : Int) - 1 == 0 && (-1 : Int) == 1 && items.size == items.size)) = true) := by simp
  show wpAny _ _ (if ((items.size : Int) - 1 == 0 && (-1 : Int) == 1 && items.size == items.size) = true then _ else _) _ _ s
  rw [if_neg hno, pick_rev]
  first
    | exact wpAny_bind (m := Builtin.Tuple.tupleExact _) (wpAny_newObj_type (wpAny_pure ⟨_, rfl, wpAny_pure h⟩) htake)
    | exact wpAny_bind (m := Builtin.Tuple.tupleExact _) (wpAny_newObj_type (wpAny_bind (wpAny_pure (wpAny_pure ⟨_, rfl, wpAny_pure h⟩))) htake)
    | exact wpAny_bind (wpAny_bind (m := Builtin.Tuple.tupleExact _) (wpAny_newObj_type (wpAny_pure (wpAny_pure ⟨_, rfl, wpAny_pure h⟩)) htake))
    | exact wpAny_bind (wpAny_bind (m := Builtin.Tuple.tupleExact _) (wpAny_newObj_type (wpAny_pure ⟨_, rfl, wpAny_pure h⟩) htake))
end

/-! ### xs[::-1] -/
def revA : D → M D
  | .tup ds => ret (.tup ds.reverse)
  | .fz ds => fun S => some (.lst S.length, S ++ [.lst ds.reverse])
  | .lst l => fun S => match S[l]? with
    | some (.lst ds) => some (.lst S.length, S ++ [.lst ds.reverse])
    | _ => none
  | _ => fail
section
variable {X : Cx} {K : PySem.W.Frag} {μ : List Addr} {H : Hp}
theorem rvs_reverse : ∀ {vs : List V} {ds : List D}, RVs K μ H vs ds → RVs K μ H vs.reverse ds.reverse
  | _, _, .nil => .nil
  | _, _, .cons a r => by
    rw [List.reverse_cons, List.reverse_cons]
    exact RVs.append (rvs_reverse r) (.cons a .nil)
theorem e_rev {e : Expr} {me : EM} {k : Nat} {p1 p2 p3 pos : Pos} (he : PE X e (lE X.w X.K me)) : PE X (.Subscript e (.Slice none none (some (.UnaryOp .USub (.Constant (.int 1) k p1) p2)) p3) pos) (lE X.w X.K (m1 revA me)) := by
  refine ⟨fun pins s σ H Q I h => ?_⟩
  obtain ⟨μ, S, ρ, d, S', R, E, e0, P⟩ := h
  obtain ⟨d1, S1, e1, e2⟩ := bnd_some e0
  refine Subscript_ (thn (he.run pins s σ H (fun v H1 => ∃ μ1, Ext μ H μ1 H1 ∧ Rel X.w X.K μ1 H1 S1 ∧ RV X.K μ1 H1 v d1) I ⟨μ, S, ρ, d1, S1, R, E, e1, fun μ1 H1 v x1 R1 r1 => ⟨μ1, x1, R1, r1⟩⟩) fun v s1 ⟨x, H1, I1, rx, μ1, x1, R1, r1⟩ => ?_)
  have hst : PO X (some (.UnaryOp .USub (.Constant (.int 1) k p1) p2)) (tPart (tUn (rU fun i => .int (-i)) (tC (.int 1)))) := po_some (pe_un un_neg pe_int)
  have P1 := P.step x1
  refine wpAny_Slice (thn (po_none.run pins s1 σ H1 (fun o H2 => o = none ∧ H2 = H1) I1 ⟨rfl, rfl⟩) fun vl s2 ⟨l, H2, I2, pl, el, e2'⟩ => ?_)
  subst el e2'
  refine thn (po_none.run pins s2 σ H2 (fun o H3 => o = none ∧ H3 = H2) I2 ⟨rfl, rfl⟩) fun vu s3 ⟨u, H3, I3, pu, eu, e3⟩ => ?_
  subst eu e3
  refine thn (hst.run pins s3 σ H3 (fun o H4 => o = some (-1) ∧ H4 = H3) I3 ⟨1, rfl, -1, rfl, rfl, rfl⟩) fun vs s4 ⟨o, H4, I4, ps, eo, e4⟩ => ?_
  subst eo e4
  have I5 : Inv X pins σ H4 { s4 with heap := s4.heap.push { cls := .type "slice", data := .fields #[vl, vu, vs] } } := I4.kept (t' := s4.toks) fun b ob q => Heap.get?_push_of_some _ q
  have goL : ∀ (a : Addr) (xs : List V) (ds : List D), v = .ref a → SqL X.K H4 a xs → RVs X.K μ1 H4 xs ds → (∀ p, H4 p = none → Post X.w X.K μ1 H4 S' d Q → Q (.ref p) (upd H4 p (.lst xs.reverse))) →
      wpAny (model X.prog X.w) X.A (subscriptTail e (.Slice none none (some (.UnaryOp .USub (.Constant (.int 1) k p1) p2)) p3) v (.ref s4.heap.objs.size)) (EP X pins σ Q) X.xe { s4 with heap := s4.heap.push { cls := .type "slice", data := .fields #[vl, vu, vs] } } := by
    intro a xs ds ev hx rs q
    subst ev
    obtain ⟨its, r, ht, hz⟩ := I5.list hx
    have hlen := r.length
    refine tail_any (ops := [.ref a, .ref s4.heap.objs.size]) ht.isList.typeIs (PySem.slot_list_getitem.lookup) ?_ (by with_unfolding_all rfl)
    refine wpAny_getItem_list_slice ht.isList (Heap.IsSliceOf.new _ vl vu vs) pl pu ps (by decide) ?_ (by rw [List.size_toArray]; omega)
    rw [PySem.W.krv_pick]
    refine ⟨.ref _, _, I5.laid (t' := s4.toks) (o := .lst xs.reverse) (fun b ob q => Heap.get?_push_of_some _ q) (Nat.le_refl _) ?_, rfl, q _ (I5.hok.fresh (Nat.le_refl _)) P1⟩
    exact ⟨by rw [List.length_reverse]; exact hz, _, 0, r.reverse, Heap.get?_push_size _ rfl⟩
  cases r1 with
  | @tup a vs' ds hq rs =>
    obtain ⟨rfl, rfl⟩ := Prod.mk.inj (Option.some.inj e2)
    obtain rfl : v = .ref a := rx
    obtain ⟨its, r, ht, hz⟩ := I5.tuple hq.sq
    have hlen : its.toArray.size = vs'.length := by rw [List.size_toArray]; exact r.length.symm
    refine tail_any (ops := [.ref a, .ref s4.heap.objs.size]) ht.typeIs (PyProof.Rows.slot_tuple_getitem.lookup) ?_ (by with_unfolding_all rfl)
    refine getItem_tuple_rev ht (Heap.IsSliceOf.new _ vl vu vs) pl pu ps ?_ (by rw [hlen]; exact hz)
    exact newT I5 r.reverse (by rw [List.length_reverse]; exact hz) fun p o ho hn => post_new R1 hn (.tup (.new ho) ((rvs_reverse rs).mono (ext_upd hn))) P1
  | @fz a vs' ds hq rs =>
    obtain ⟨rfl, rfl⟩ := Prod.mk.inj (Option.some.inj e2)
    exact goL a vs' ds rx hq.sq rs fun p hn P => post_list R1 hn (rvs_reverse rs) P
  | @lst a l hl =>
    have e' : (match S1[l]? with
      | some (.lst ds) => some (D.lst S1.length, S1 ++ [.lst ds.reverse])
      | _ => none) = some (d, S') := e2
    split at e'
    · rename_i ds hS
      obtain ⟨rfl, rfl⟩ := Prod.mk.inj (Option.some.inj e')
      obtain ⟨a', vs', q1, q2, q3, q4⟩ := rv_list R1 (.lst hl) hS
      cases q1
      exact goL a vs' ds rx (.inl (.inl q3)) q4 fun p hn P => post_list R1 hn (rvs_reverse q4) P
    · cases e'
  | _ => cases e2
end

/-! ### xs.index(i), xs.remove(i): whole numbers -/
def indexM : D → List D → M D
  | .lst l, [.int i] => fun S => match S[l]? with
    | some (.lst ds) => (intsOf ds).bind fun ns => if i ∈ ns then some (.int (ns.idxOf i : Nat), S) else none
    | _ => none
  | _, _ => fail
def removeM : D → List D → M D
  | .lst l, [.int i] => fun S => match S[l]? with
    | some (.lst ds) => (intsOf ds).bind fun ns => if i ∈ ns then some (.non, S.set l (.lst ((ns.erase i).map .int))) else none
    | _ => none
  | _, _ => fail
theorem intsOf_some : ∀ {ds : List D} {ns : List Int}, intsOf ds = some ns → ds = ns.map .int
  | [], ns, h => by cases h; rfl
  | d :: ds, ns, h => by
    cases d with
    | int i =>
      unfold intsOf at h
      obtain ⟨ms, h1, rfl⟩ := Option.map_eq_some_iff.mp h
      rw [intsOf_some h1]
      rfl
    | _ => cases h
theorem idx_first {ns : List Int} {i : Int} (h : i ∈ ns) : ns[ns.idxOf i]? = some i ∧ ∀ m, m < ns.idxOf i → ns[m]? ≠ some i := by
  induction ns with
  | nil => cases h
  | cons a r ih =>
    by_cases e : a = i
    · subst e
      rw [List.idxOf_cons_self]
      exact ⟨rfl, fun m hm => absurd hm (Nat.not_lt_zero m)⟩
    · have hr : i ∈ r := (List.mem_cons.mp h).resolve_left fun z => e z.symm
      rw [show (a :: r).idxOf i = r.idxOf i + 1 by rw [List.idxOf_cons, beq_false_of_ne e]; rfl]
      obtain ⟨h1, h2⟩ := ih hr
      refine ⟨by rw [List.getElem?_cons_succ]; exact h1, fun m hm => ?_⟩
      cases m with
      | zero => rw [List.getElem?_cons_zero]; exact fun z => e (Option.some.inj z)
      | succ k => rw [List.getElem?_cons_succ]; exact h2 k (by omega)
theorem vals_ints {ns : List Int} {us : List Value} (h : Vals (ns.map V.int) us) : IntsAre us ns := by
  induction ns generalizing us with
  | nil => cases h; exact .nil
  | cons a r ih =>
    cases h with
    | cons h1 h2 =>
      obtain ⟨t, rfl⟩ := h1
      exact .cons a t (ih h2)
theorem rvs_mapInt {K : PySem.W.Frag} {μ : List Addr} {H : Hp} : ∀ ns : List Int, RVs K μ H (ns.map V.int) (ns.map D.int)
  | [] => .nil
  | i :: r => .cons (.int i) (rvs_mapInt r)
section
variable {X : Cx}
theorem m_index : Meth0 X "index" isLst indexM := by
  refine ⟨fun pins s σ H μ S v u d I ru R r ok => ?_⟩
  obtain ⟨l, a, rfl, rfl, rfl, hl, t1, t2⟩ := lst_recv I ru R r ok
  refine ⟨"list", "list.index", PySem.F.plainAttrs_list, PySem.F.slot_list_index, PySem.F.type_list_index, t1, t2, fun s2 H2 μ2 S2 S3 xs us ds r2 Q I2 rx x2 R2 rs e0 P => ?_⟩
  obtain ⟨i, rfl, e⟩ : ∃ i, ds = [.int i] ∧ indexM (.lst l) [.int i] S2 = some (r2, S3) := by
    match ds, e0 with
    | [.int i], e => exact ⟨i, rfl, e⟩
  obtain ⟨y, rfl, ry⟩ := rvs1 rs
  obtain ⟨uk, rfl, hv⟩ := Vals.one rx
  cases ry
  obtain ⟨t, rfl⟩ := hv
  unfold indexM at e
  dsimp only at e
  split at e
  · rename_i ds' hS
    obtain ⟨ns, hn, e1⟩ := Option.bind_eq_some_iff.mp e
    split at e1
    · rename_i hi
      obtain ⟨rfl, rfl⟩ := Prod.mk.inj (Option.some.inj e1)
      obtain ⟨a', vs, q1, q2, q3, q4⟩ := rv_list R2 (.lst (x2.pl _ _ hl)) hS
      cases q1
      obtain ⟨its, rv, hlst, hz⟩ := I2.list (.inl (.inl q3))
      rw [ints_of q4 hn] at rv
      have hia := vals_ints rv
      have hlen := hia.length
      have hvl := rv.length
      refine PySem.SeqAt.list_index_ints hlst.isList hia ?_ hi ⟨.int (ns.idxOf i : Nat), H2, I2.tok _, ⟨_, rfl⟩, post_val R2 (.int _) P⟩
      have h3 := ints_of q4 hn
      rw [h3, List.length_map] at hz
      exact hz
    · cases e1
  · cases e
theorem m_remove : Meth0 X "remove" isLst removeM := by
  refine ⟨fun pins s σ H μ S v u d I ru R r ok => ?_⟩
  obtain ⟨l, a, rfl, rfl, rfl, hl, t1, t2⟩ := lst_recv I ru R r ok
  refine ⟨"list", "list.remove", PySem.F.plainAttrs_list, PySem.F.slot_list_remove, PySem.F.type_list_remove, t1, t2, fun s2 H2 μ2 S2 S3 xs us ds r2 Q I2 rx x2 R2 rs e0 P => ?_⟩
  obtain ⟨i, rfl, e⟩ : ∃ i, ds = [.int i] ∧ removeM (.lst l) [.int i] S2 = some (r2, S3) := by
    match ds, e0 with
    | [.int i], e => exact ⟨i, rfl, e⟩
  obtain ⟨y, rfl, ry⟩ := rvs1 rs
  cases ry
  unfold removeM at e
  dsimp only at e
  split at e
  · rename_i ds' hS
    obtain ⟨ns, hn, e1⟩ := Option.bind_eq_some_iff.mp e
    split at e1
    · rename_i hi
      obtain ⟨rfl, rfl⟩ := Prod.mk.inj (Option.some.inj e1)
      obtain ⟨a', vs, q1, q2, q3, q4⟩ := rv_list R2 (.lst (x2.pl _ _ hl)) hS
      cases q1
      obtain ⟨f1, f2⟩ := idx_first hi
      have h3 := ints_of q4 hn
      have e2 : (ns.eraseIdx (ns.idxOf i)) = ns.erase i := by rw [List.erase_eq_eraseIdx_of_idxOf rfl]
      refine mt_remove pins s2 σ H2 (.ref a) _ _ us Q I2 rfl rx ⟨_, ns, i, ns.idxOf i, rfl, rfl, by rw [← h3]; exact q3, f1, f2, ?_⟩
      rw [e2]
      exact post_set R2 q2 q3 trivial (ob := .lst ((ns.erase i).map .int)) ⟨_, upd_same, rvs_mapInt _⟩ .non P
    · cases e1
  · cases e
end
end VM

/-! VM23: a, b = a tuple or a list -/
namespace VM
open PySem PySem.Spec PyProof.Rows L2
def gTpA (gs : GMs) : GM := fun d ρ => match d with
  | .tup ds => gs ds ρ
  | .pr ds => gs ds ρ
  | .lst l => fun S => match S[l]? with
    | some (.lst ds) => gs ds ρ S
    | _ => none
  | _ => fail
section
variable {X : Cx} {pos : Pos}
theorem g_tupA {es : List Expr} {k n : Nat} {gs : GMs} {vs : List Nat} (hc : X.calm = true) (h : PGs X es (lGs X.w X.K vs gs)) (hl : ∀ ds ρ S x, gs ds ρ S = some x → ds.length = n)
    (hn : (assignEach es X.env).length = n := by rfl) (hst : (assignEach es X.env).findIdx? (·.1) = none := by rfl) : PG X (.Tuple es k pos) (lG X.w X.K vs (gTpA gs)) := by
  refine ⟨fun pins s σ H v u Q I r hw => ?_⟩
  obtain ⟨μ, S, ρ, d, ρ', S', R, E, rd, e, P⟩ := hw
  cases rd with
  | tup hq rs =>
    have e' : gs _ ρ S = some (ρ', S') := e
    exact (pg_tup hc h hn hst).run pins s σ H _ u Q I r ⟨_, _, rfl, hq.sq, by rw [rs.length]; exact hl _ _ _ _ e', μ, S, ρ, _, ρ', S', R, E, rs, e', P⟩
  | pr hq rs =>
    have e' : gs _ ρ S = some (ρ', S') := e
    exact (pg_tup hc h hn hst).run pins s σ H _ u Q I r ⟨_, _, rfl, hq, by rw [rs.length]; exact hl _ _ _ _ e', μ, S, ρ, _, ρ', S', R, E, rs, e', P⟩
  | @lst a l hp =>
    have e' : (match S[l]? with
      | some (.lst ds) => gs ds ρ S
      | _ => none) = some (ρ', S') := e
    split at e'
    · rename_i ds hS
      obtain ⟨a', vs', q1, q2, q3, q4⟩ := rv_list R (.lst hp) hS
      cases q1
      exact (pg_lst hc h hn hst).run pins s σ H _ u Q I r ⟨a, vs', rfl, .inl (.inl q3), by rw [q4.length]; exact hl _ _ _ _ e', μ, S, ρ, ds, ρ', S', R, E, q4, e', P⟩
    · cases e'
  | _ => cases e
end
section
variable {gs : GMs} {ρ : Env} {S : Store} {QG : Env → Store → Prop}
@[simp] theorem ok_gTpA {ds : List D} : Ok (gTpA gs (.tup ds) ρ) S QG ↔ Ok (gs ds ρ) S QG := Iff.rfl
@[simp] theorem ok_gTpAP {ds : List D} : Ok (gTpA gs (.pr ds) ρ) S QG ↔ Ok (gs ds ρ) S QG := Iff.rfl
@[simp] theorem ok_gTpL {l : Nat} : Ok (gTpA gs (.lst l) ρ) S QG ↔ ∃ ds, S[l]? = some (.lst ds) ∧ Ok (gs ds ρ) S QG := by
  have e0 : gTpA gs (.lst l) ρ S = (match S[l]? with
    | some (.lst ds) => gs ds ρ S
    | _ => none) := rfl
  constructor
  · rintro ⟨d, S', e, q⟩
    rw [e0] at e
    split at e
    · rename_i ds h
      exact ⟨ds, h, d, S', e, q⟩
    · cases e
  · rintro ⟨ds, h, d, S', e, q⟩
    exact ⟨d, S', by rw [e0, h]; exact e, q⟩
end
end VM

/-! VM24: enumerate(a tuple) -/
namespace VM
open PySem PySem.Spec PyProof.Rows L2
theorem new_of_begins {v : Value} {o : Obj} {H : Heap → Prop} (B : Begins v o H) :
    Meets (Builtin.«enumerate.__new__» ⟨[.type "enumerate", v], []⟩) (fun _ R s => H s.heap ∧
      R (.ok (.ret (.ref (s.heap.push o).objs.size))) { s with heap := (s.heap.push o).push { cls := .type "enumerate", data := .fields #[.none, .bool false, .ref s.heap.objs.size, rawInt 0, .none, .none] } }) :=
  .of_wp fun prog w A R s h => by
    obtain ⟨hp, g, d, tk, os⟩ := s
    obtain ⟨h1, h2⟩ := h
    have hsub := sub_enumerate
    have go : ∀ {A' : Around} {E : Value → Shared → Prop} {Q : Value → Shared → Prop}, Q (.ref hp.objs.size) ⟨hp.push o, g, d, tk, os⟩ → wpAny (model prog w) A' (pyIter v) Q E ⟨hp, g, d, tk, os⟩ := fun q => B.iter prog w _ _ ⟨hp, g, d, tk, os⟩ _ h1 q
    wp_walk using go
    refine wpAny_stack_any fun _ => wpAny_pure ?_
    split
    · rename_i c _ _ _ _ _
      cases (c == Value.type "enumerate") <;> (wp_walk using go; exact ⟨_, rfl, h2⟩)
    · wp_walk using go
      exact ⟨_, rfl, h2⟩
section
variable {prog : Program} {w : World} {A : Around} {E : Value → Shared → Prop} {s : Shared}
theorem call_enum {v : Value} {o : Obj} {H : Heap → Prop} {Q : Value → Shared → Prop} (B : Begins v o H) (h1 : H s.heap)
    (h : ∀ h', IsEnum h' (s.heap.objs.size + 1) s.heap.objs.size 0 .none → h'.get? s.heap.objs.size = some o → h'.objs.size = s.heap.objs.size + 2 → (∀ b o, s.heap.get? b = some o → h'.get? b = some o) → Q (.ref (s.heap.objs.size + 1)) { s with heap := h' }) :
    wpAny (model prog w) A (call (.type "enumerate") [v]) Q E s := by
  have hz : (s.heap.push o).objs.size = s.heap.objs.size + 1 := Heap.size_push ..
  have he : IsEnum ((s.heap.push o).push { cls := .type "enumerate", data := .fields #[.none, .bool false, .ref s.heap.objs.size, rawInt 0, .none, .none] }) (s.heap.objs.size + 1) s.heap.objs.size 0 .none := by
    have q := Heap.get?_push_size (s.heap.push o) (o := { cls := .type "enumerate", data := .fields #[.none, .bool false, .ref s.heap.objs.size, rawInt 0, .none, .none] }) rfl
    rwa [hz] at q
  refine callType_new F.called_enumerate (by decide) (F.typeCall_enumerate_1 _) (F.newCall_enumerate_1 _) (fun obj => F.args_object_init_2 obj _) F.entry_enumerate_new (new_of_begins B) ⟨h1, ?_⟩
  show _ ∧ _
  rw [hz]
  exact ⟨⟨_, he, rfl⟩, h _ he (Heap.get?_push_of_some _ (Heap.get?_push_size _ B.free)) (by rw [Heap.size_push, hz]) fun b o x => Heap.get?_push_of_some _ (Heap.get?_push_of_some _ x)⟩
end
/-- the tuple at a, each item in a new pair -/
def Itet (K : PySem.W.Frag) (a : Addr) : It :=
  ⟨fun i H => ∃ (xs : List V) (x : V), SqT K H a xs ∧ xs[i]? = some x, fun i H v H' => ∃ T x, v = .ref T ∧ H T = none ∧ H' = upd H T (.tup [.int (i : Nat), x]) ∧ ∀ xs, SqT K H a xs → xs[i]? = some x, fun i H => ∃ xs : List V, SqT K H a xs ∧ xs.length ≤ i⟩
theorem turn_enumT {P : Program} {w : World} {K : PySem.W.Frag} {elts : List Expr} {kk : Nat} {tpos : Pos} (a e it : Addr) :
    Turn P w K (.Tuple elts kk tpos) (Itet K a) [e, it] e (fun i h => (∃ old, IsEnum h e it ((i : Nat) : Int) old) ∧ h.IsTupleIter it a i ∧ e ≠ it) where
  mem := by simp
  obj := fun i h st b hb => by
    obtain ⟨⟨old, he⟩, ⟨o, ho, hc, hd⟩, _⟩ := st
    have e' : b = e ∨ b = it := by simpa using hb
    rcases e' with z | z
    · rw [z]; exact ⟨_, he, fun v q => nomatch q⟩
    · rw [z]; exact ⟨o, ho, fun v q => by rw [hd] at q; cases q⟩
  keep := fun i h h' st k => let ⟨⟨old, he⟩, hi, hne⟩ := st; ⟨⟨old, k e (by simp) _ he⟩, hi.at fun o q => k it (by simp) o q, hne⟩
  item := by
    intro X hP hw hK hc i pins s σ H E I hf st hg
    subst hP hw hK
    obtain ⟨⟨old, he⟩, hit, hne⟩ := st
    obtain ⟨xs, x, hq, hx⟩ := hg
    obtain ⟨its, rv, p, hz⟩ := I.tuple hq
    obtain ⟨u, hu, ru⟩ := rv.get hx
    have hel : e < s.heap.objs.size := Heap.lt_size he
    have hil : it < s.heap.objs.size := by obtain ⟨_, q, _⟩ := hit; exact Heap.lt_size q
    have nea : e ≠ a := fun z => by
      obtain ⟨o, ho, hc, _⟩ := p
      rw [← z, he] at ho
      cases ho
      injection hc with e
      exact absurd e (by decide)
    have nia : a ≠ it := fun z => by
      obtain ⟨o, ho, hc, _⟩ := p
      obtain ⟨o', ho', hc', _⟩ := hit
      rw [z, ho'] at ho
      cases ho
      rw [hc'] at hc
      injection hc with e
      exact absurd e (by decide)
    have D := Draws.tuple (prog := X.prog) (w := X.w) (A := X.A.in1) (show X.A.in1.handled = none from I.ok.hd hc) it a nia its.toArray
    refine wpAny_pyNext_enum_itemD D he ⟨hit, p⟩ (by have := (List.getElem?_eq_some_iff.mp hu).1; simpa using this) hne (by simp [nea, hne]) fun u' h' tk hP ho hit' hT hsz hk => ?_
    have hP' : its[i]? = some u' := by simpa using hP
    rw [hu] at hP'
    obtain rfl := Option.some.inj hP'
    refine ⟨_, rfl, wpAny_letOwnedTupleGo_enum (s := { s with heap := h', toks := tk + 1 }) ho fun h'' he' sb => ?_⟩
    have hT2 : h''.get? s.heap.objs.size = some { cls := .type "tuple", data := .seq #[.int i tk, u] } := (sb.2 _ (Nat.ne_of_gt hel)).trans hT
    have new : ObjOk X.prog X.w (upd H s.heap.objs.size (.tup [.int (i : Nat), x])) h'' s.heap.objs.size (.tup [.int (i : Nat), x]) :=
      ⟨by show 2 ≤ sizeLine; decide, [.int i tk, u], .cons ⟨_, rfl⟩ (.cons ru .nil), ⟨_, hT2, rfl, _, rfl⟩⟩
    have I1 : Inv X pins σ (upd H s.heap.objs.size (.tup [.int (i : Nat), x])) { s with heap := h'', toks := tk + 1 } :=
      I.turnedNew (ch := [e, it]) (fun b ob hb q => (sb.2 b (fun z => hb (by simp [z]))).trans (hk b ob (fun z => hb (by simp [z])) (fun z => hb (by simp [z])) q)) hf (Nat.le_refl _) new
    refine ⟨.ref s.heap.objs.size, _, I1, rfl, ⟨_, x, rfl, I.hok.fresh (Nat.le_refl _), rfl, fun ys hy => by rw [I.tuple_inj hy hq]; exact hx⟩, ⟨⟨u, ?_⟩, hit'.1.at fun o q => (sb.2 it (Ne.symm hne)).trans q, hne⟩, fun b hb => ?_⟩
    · have e1 : ((i + 1 : Nat) : Int) = (i : Int) + 1 := by omega
      rw [e1]; exact he'
    · have hb' : b < s.heap.objs.size := by
        have e' : b = e ∨ b = it := by simpa using hb
        rcases e' with z | z
        · rw [z]; exact hel
        · rw [z]; exact hil
      rw [upd_ne (Nat.ne_of_lt hb')]
      exact (hf b hb).1
  done := by
    intro X hP hw hK hc i pins s σ H E I hf st hg
    subst hP hw hK
    obtain ⟨⟨old, he⟩, hit, hne⟩ := st
    obtain ⟨xs, hq, hx⟩ := hg
    obtain ⟨its, rv, p, hz⟩ := I.tuple hq
    obtain ⟨f0, f1, f2, f3, f4, f5⟩ := hf it (by simp)
    have hl := rv.length
    have nia : a ≠ it := fun z => by
      obtain ⟨o, ho, hc, _⟩ := p
      obtain ⟨o', ho', hc', _⟩ := hit
      rw [z, ho'] at ho
      cases ho
      rw [hc'] at hc
      injection hc with e
      exact absurd e (by decide)
    have hh : X.A.in1.handled = none := I.ok.hd hc
    have D : Draws X.prog X.w X.A.in1 it [it, a] i (fun _ _ => False) (fun j h => j = i ∧ h.IsTupleIter it a i ∧ h.IsTuple a its.toArray) :=
      { live := fun _ _ st => let ⟨o, ho, _⟩ := st.2.1; ⟨o, ho⟩
        frame := fun _ _ _ st hk => ⟨st.1, st.2.1.at fun o e => hk it (by simp) o e, st.2.2.at fun o e => hk a (by simp) o e⟩
        item := fun j s Q E hi st hQ => absurd st.1 (Nat.ne_of_lt hi)
        done := fun s Q E st hE => wpAny_nextOf_tuple_end hh st.2.1 st.2.2 (by simp; omega) hE }
    exact wpAny_pyNext_enum_endD D he ⟨rfl, hit, p⟩ fun h' eb => ⟨rfl, I.turned (t' := s.toks) (fun b o hb q => eb b o hb q) f0 f1 f3 f4 f5⟩
  self := fun A i s Q E st h => let ⟨⟨_, he⟩, _⟩ := st; wpAny_pyIter_enum he h
theorem walk_enumT {w : World} {K : PySem.W.Frag} {μ : List Addr} {H : Hp} {a : Addr} {vs : List V} {ds : List D} {lv : Lv} (h1 : SqT K H a vs) (h2 : RVs K μ H vs ds) : Walk w K μ H (Itet K a) (numD 0 ds) lv := by
  intro μ' H' S' e R L
  have h1 := e.sqT h1
  have h2 := h2.mono0 e
  refine ⟨fun i hi => ⟨vs, h1, by rw [h2.length]; rw [numD_len] at hi; exact hi⟩, fun i d hd => ?_⟩
  obtain ⟨x, hx, rfl⟩ := numD_get hd
  obtain ⟨v, hv, rv⟩ := h2.get hx
  refine ⟨⟨vs, v, h1, hv⟩, fun x H2 y => ?_⟩
  obtain ⟨T, y1, rfl, hT, rfl, f⟩ := y
  rw [f vs h1] at hv
  obtain rfl := Option.some.inj hv
  rw [Nat.zero_add]
  exact new_pair ⟨_, R⟩ hT (.int _) rv
def iEnumA (K : PySem.W.Frag) (ta : TA) : TI := fun σ H R => ta σ H fun vs H1 => ∃ a xs, vs = [.ref a] ∧ (SqL K H1 a xs ∧ R (Ite K a) H1 ∨ SqT K H1 a xs ∧ R (Itet K a) H1)
theorem pi_enumA {X : Cx} {e : Expr} {ta : TA} {p pos tpos : Pos} {elts : List Expr} {kk : Nat} (hg : Gl X "enumerate") (hm : X.mg "enumerate" = none) (ha : PA X [e] ta) (hs : starEach [e] X.env = [(false, eval e X.env)] := by rfl) :
    PI X (.Tuple elts kk tpos) (.Call (.Name "enumerate" p) [e] [] pos) (iEnumA X.K ta) := by
  refine ⟨fun pins s σ H R I h => ?_⟩
  refine Call_ (ld_blt I hg hm boot_enumerate (PyProof.Rows.callWith_type1 (thn (ha.run pos pins s σ H _ I h) fun us s1 ⟨vs, H1, I1, r1, q1⟩ => ?_) hs rfl))
  obtain ⟨a, xs, ex, q⟩ := q1
  subst ex
  have fp : ∀ b, b ∈ [s1.heap.objs.size + 1, s1.heap.objs.size] → FpOk X pins H1 b := fun b hb => by
    have e' : b = s1.heap.objs.size + 1 ∨ b = s1.heap.objs.size := by simpa using hb
    have hle : s1.heap.objs.size ≤ b := by
      rcases e' with z | z
      · rw [z]; exact Nat.le_add_right _ _
      · rw [z]; exact Nat.le_refl _
    exact I1.fpOk hle (I1.hok.fresh hle)
  cases r1 with
  | cons r rr =>
    cases rr
    cases r
    rcases q with ⟨hq, q⟩ | ⟨hq, q⟩
    · obtain ⟨its, rv, p', hz⟩ := I1.list hq
      refine call_enumerate_list p'.isList fun h' he hit hsz hk => wpAny_pyIter_enum he ?_
      have I2 : Inv X pins σ H1 { s1 with heap := h' } := I1.kept (t' := s1.toks) hk
      exact ⟨s1.heap.objs.size + 1, [s1.heap.objs.size + 1, s1.heap.objs.size], _, _, H1, rfl, I2, turn_enum a (s1.heap.objs.size + 1) s1.heap.objs.size, ⟨⟨.none, he⟩, hit, Nat.succ_ne_self _⟩, fp, q⟩
    · obtain ⟨its, rv, p', hz⟩ := I1.tuple hq
      refine call_enum (begins_tuple a its.toArray) p' fun h' he hit hsz hk => wpAny_pyIter_enum he ?_
      have I2 : Inv X pins σ H1 { s1 with heap := h' } := I1.kept (t' := s1.toks) hk
      exact ⟨s1.heap.objs.size + 1, [s1.heap.objs.size + 1, s1.heap.objs.size], _, _, H1, rfl, I2, turn_enumT a (s1.heap.objs.size + 1) s1.heap.objs.size, ⟨⟨.none, he⟩, ⟨_, hit, rfl, rfl⟩, Nat.succ_ne_self _⟩, fp, q⟩
def enumA : List D → M (List D × Lv)
  | [x] => fun S => match seqLv S x with
    | some (xs, l1) => some ((numD 0 xs, l1), S)
    | none => none
  | _ => fail
def mEnumA (ma : AM) : IM := fun ρ => bnd (ma ρ) enumA
theorem i_enumA {X : Cx} {e : Expr} {elts : List Expr} {kk : Nat} {ma : AM} {p pos tpos : Pos} (hm : X.mg "enumerate" = none) (ha : PA X [e] (lA X.w X.K ma)) (hg : Gl X "enumerate" := by rfl) (hs : starEach [e] X.env = [(false, eval e X.env)] := by rfl) :
    PI X (.Tuple elts kk tpos) (.Call (.Name "enumerate" p) [e] [] pos) (lI X.w X.K (mEnumA ma)) := by
  refine pi_imp (pi_enumA hg hm ha hs) fun σ H R h => ?_
  obtain ⟨μ, S, ρ, ds, S1, h1, h2, h3, h4⟩ := lI_fn h
  refine ⟨μ, S, ρ, ds, S1, h1, h2, h3, fun μ1 H1 vs x1 R1 r1 => ?_⟩
  obtain ⟨μ2, S2, ds2, items, lv, S', R2, r2, e2, P⟩ := h4 μ1 H1 vs x1 R1 r1
  match ds2, e2 with
  | [x], e2 =>
    unfold enumA at e2
    dsimp only at e2
    split at e2
    · rename_i xs l1 hx
      obtain ⟨e3, rfl⟩ := Prod.mk.inj (Option.some.inj e2)
      obtain ⟨rfl, rfl⟩ := Prod.mk.inj e3
      obtain ⟨v, rfl, rv⟩ := rvs1 r2
      cases ht : isT x with
      | true =>
        obtain ⟨a, vs, rfl, h1, h2⟩ := seq_tup rv hx ht
        exact ⟨a, vs, rfl, .inr ⟨h1, P μ2 H1 _ Ext.refl R2 (walk_enumT h1 h2)⟩⟩
      | false =>
        obtain ⟨a, rfl, h1⟩ := seq_list R2 rv hx ht
        obtain ⟨vs, h2, h3⟩ := h1 μ2 H1 S2 Ext0.refl R2 (seq_live hx)
        exact ⟨a, vs, rfl, .inl ⟨h2, P μ2 H1 _ Ext.refl R2 (walk_enum h1)⟩⟩
    · cases e2
section
variable {S : Store} {ρ : Env} {QI : List D × Lv → Store → Prop} {ma : AM}
@[simp] theorem ok_mEnumA : Ok (mEnumA ma ρ) S QI ↔ Ok (ma ρ) S fun ds S1 => Ok (enumA ds) S1 QI := ok_bnd
@[simp] theorem ok_enumAT {ds : List D} : Ok (enumA [.tup ds]) S QI ↔ QI (numD 0 ds, []) S := ok_iff rfl
end
end VM

/-! VM25: a tuple times a number -/
namespace VM
open PySem PySem.Spec PyProof.Rows L2
def mulA (a b : D) : M D := match a, b with
  | .tup ds, .int k => if ds ≠ [] ∧ 2 ≤ k ∧ k ≤ 1000 ∧ ds.length ≤ 1000 then ret (.tup (List.replicate k.toNat ds).flatten) else fail
  | a, b => mulM a b
section
variable {X : Cx}
theorem o_mulA : OpR X (binaryOp .Mult) (lR2 X.w X.K mulA) := by
  intro pins s σ H x y v u Q I rx ry h
  obtain ⟨μ, S, d1, d2, d, S', R, r1, r2, e, P⟩ := h
  by_cases ht : ∃ ds k, d1 = .tup ds ∧ d2 = .int k
  · obtain ⟨ds, k, rfl, rfl⟩ := ht
    cases r1 with
    | tup hq rs =>
      cases r2
      unfold mulA at e
      dsimp only at e
      split at e
      · rename_i hc
        obtain ⟨c1, c2, c3, c4⟩ := hc
        obtain ⟨rfl, rfl⟩ := Prod.mk.inj (Option.some.inj e)
        refine op_repN pins s σ H _ _ v u Q I rx ry ⟨_, _, _, rfl, rfl, hq.sq, fun e => c1 ?_, c2, c3, by rw [rs.length]; exact c4, fun p o ho hn => ?_⟩
        · have := rs.length
          rw [e] at this
          exact List.eq_nil_of_length_eq_zero this.symm
        · exact post_new R hn (.tup (.new ho) ((rvs_rep rs _).mono (ext_upd hn))) P
      · cases e
  · have e' : mulM d1 d2 S = some (d, S') := by
      rw [← e]
      unfold mulA
      split
      · rename_i ds k
        exact absurd ⟨ds, k, rfl, rfl⟩ ht
      · rfl
    exact o_mul pins s σ H x y v u Q I rx ry ⟨μ, S, d1, d2, d, S', R, r1, r2, e', P⟩
end
section
variable {S : Store} {Q : D → Store → Prop} {i j k : Int} {ds : List D} {l : Nat}
@[simp] theorem ok_mulAI : Ok (mulA (.int i) (.int j)) S Q ↔ ((-(2 ^ 64) < i ∧ i < 2 ^ 64) ∨ (-(2 ^ 64) < j ∧ j < 2 ^ 64)) ∧ Q (.int (i * j)) S := ok_mulI
@[simp] theorem ok_mulAT : Ok (mulA (.tup ds) (.int k)) S Q ↔ (ds ≠ [] ∧ 2 ≤ k ∧ k ≤ 1000 ∧ ds.length ≤ 1000) ∧ Q (.tup (List.replicate k.toNat ds).flatten) S := by
  show Ok (if _ then _ else _) S Q ↔ _
  rw [ok_if, ok_ret]
end
end VM

/-! VM26: t.index(i), xs.index(i); xs.count(i), t.count: whole numbers -/
namespace VM
open PySem PySem.Spec PyProof.Rows L2
def isLT (d : D) (S : Store) : Bool := match d with
  | .tup _ => true
  | d => isLst d S
def indexA : D → List D → M D
  | .tup ds, [.int i] => fun S => (intsOf ds).bind fun ns => if i ∈ ns then some (.int (ns.idxOf i : Nat), S) else none
  | d, as => indexM d as
section
variable {X : Cx}
theorem tup_recv {pins : List (Addr × Obj)} {σ : L2.St} {H : Hp} {s : Shared} {μ : List Addr} {ds : List D} {v : V} {u : Value} (I : Inv X pins σ H s) (ru : RelV v u) (r : RV X.K μ H v (.tup ds)) :
    ∃ a vs its, v = .ref a ∧ u = .ref a ∧ SqN X.K H a vs ∧ RVs X.K μ H vs ds ∧ Vals vs its ∧ IsTup s.heap a its.toArray ∧ s.TypeIs u "tuple" ∧ ∀ b, u = .ref b → ∃ o, s.heap.get? b = some o ∧ o.dict = none := by
  cases r with
  | @tup a vs _ hq rs =>
    cases ru
    obtain ⟨its, rv, ht, hz⟩ := I.tuple hq.sq
    refine ⟨a, vs, its, rfl, rfl, hq, rs, rv, ht, ht.typeIs, fun b e => ?_⟩
    cases e
    rcases hq with ⟨o, hq, hd⟩ | ⟨o, its', n, hk, hc, hd, _⟩
    · exact ⟨o, (I.hok a _ hq).1, hd⟩
    · exact ⟨o, I.kIn a o hk, hd⟩
theorem m_indexA : Meth0 X "index" isLT indexA := by
  refine ⟨fun pins s σ H μ S v u d I ru R r ok => ?_⟩
  by_cases ht : ∃ ds, d = .tup ds
  · obtain ⟨ds, rfl⟩ := ht
    obtain ⟨a, vs, its, rfl, rfl, hq, rs, rv, htp, t1, t2⟩ := tup_recv I ru r
    refine ⟨"tuple", "tuple.index", PySem.F.plainAttrs_tuple, PySem.F.slot_tuple_index, PySem.F.type_tuple_index, t1, t2, fun s2 H2 μ2 S2 S3 xs us ds2 r2 Q I2 rx x2 R2 rs2 e0 P => ?_⟩
    obtain ⟨i, rfl, e⟩ : ∃ i, ds2 = [.int i] ∧ indexA (.tup ds) [.int i] S2 = some (r2, S3) := by
      match ds2, e0 with
      | [.int i], e => exact ⟨i, rfl, e⟩
    obtain ⟨y, rfl, ry⟩ := rvs1 rs2
    obtain ⟨uk, rfl, hv⟩ := Vals.one rx
    cases ry
    obtain ⟨t, rfl⟩ := hv
    obtain ⟨ns, hn, e1⟩ := Option.bind_eq_some_iff.mp (show (intsOf ds).bind _ = some _ from e)
    split at e1
    · rename_i hi
      obtain ⟨rfl, rfl⟩ := Prod.mk.inj (Option.some.inj e1)
      obtain ⟨its2, rv2, htp2, hz2⟩ := I2.tuple (x2.toExt0.sqN hq).sq
      rw [ints_of (rs.mono x2) hn] at rv2
      exact PySem.SeqAt.tuple_index_ints htp2 (vals_ints rv2) hi ⟨.int (ns.idxOf i : Nat), H2, I2.tok _, ⟨_, rfl⟩, post_val R2 (.int _) P⟩
    · cases e1
  · have ok' : isLst d S = true := by
      cases d with
      | tup ds => exact absurd ⟨ds, rfl⟩ ht
      | _ => exact ok
    have hf : ∀ as S2, indexA d as S2 = indexM d as S2 := fun as S2 => by
      cases d with
      | tup ds => exact absurd ⟨ds, rfl⟩ ht
      | _ => rfl
    obtain ⟨T, id, a1, a2, a3, a4, a5, run⟩ := (m_index (X := X)).run pins s σ H μ S v u d I ru R r ok'
    exact ⟨T, id, a1, a2, a3, a4, a5, fun s2 H2 μ2 S2 S3 xs us ds r2 Q I2 rx x2 R2 rs e0 P => run s2 H2 μ2 S2 S3 xs us ds r2 Q I2 rx x2 R2 rs (by rw [← hf]; exact e0) P⟩
end
section
variable {S : Store} {Q : D → Store → Prop}
@[simp] theorem isLT_tup {ds : List D} : isLT (.tup ds) S = true := rfl
@[simp] theorem isLT_lst {l : Nat} : isLT (.lst l) S = isLst (.lst l) S := rfl
theorem intsOf_map : ∀ {ns : List Int}, intsOf (ns.map D.int) = some ns
  | [] => rfl
  | a :: ns => by
    show (intsOf (ns.map D.int)).map _ = _
    rw [intsOf_map]
    rfl
theorem ok_indexT {ns : List Int} {i : Int} (h : i ∈ ns) : Ok (indexA (.tup (ns.map D.int)) [.int i]) S Q ↔ Q (.int (ns.idxOf i : Nat)) S := by
  refine ok_iff ?_
  show (intsOf _).bind _ = _
  rw [intsOf_map]
  dsimp only [Option.bind]
  rw [if_pos h]
theorem ok_indexL {l : Nat} {ns : List Int} {i : Int} (hS : S[l]? = some (.lst (ns.map D.int))) (h : i ∈ ns) : Ok (indexA (.lst l) [.int i]) S Q ↔ Q (.int (ns.idxOf i : Nat)) S := by
  refine ok_iff ?_
  show (match S[l]? with
    | some (.lst ds) => (intsOf ds).bind fun ns => if i ∈ ns then some (D.int (ns.idxOf i : Nat), S) else none
    | _ => none) = _
  rw [hS]
  dsimp only
  rw [intsOf_map]
  dsimp only [Option.bind]
  rw [if_pos h]
end
end VM

/-! VM27: a display of a dict with up to 15 pairs -/
namespace VM
open PySem PySem.Spec PyProof.Rows L2
abbrev PM := Env → M (List (D × D))
def dpNil : PM := fun _ => ret []
def dpCons (mk mv : EM) (mr : PM) : PM := fun ρ => bnd (mk ρ) fun k => bnd (mv ρ) fun v => bnd (mr ρ) fun r => ret ((k, v) :: r)
def putAll : List (D × D) → KV' → M KV'
  | [], acc => ret acc
  | (k, v) :: r, acc => bnd (putM acc k v) (putAll r)
def mDisp (mp : PM) : EM := fun ρ => bnd (mp ρ) fun kvs => bnd (putAll kvs []) mkD
abbrev VVs := List (V × V)
def RelP (xs : VVs) (us : List (Value × Value)) : Prop := Paired (fun x u => RelV x.1 u.1 ∧ RelV x.2 u.2) xs us
def RVP (K : PySem.W.Frag) (μ : List Addr) (H : Hp) (xs : VVs) (ds : List (D × D)) : Prop := Paired (fun x d => RV K μ H x.1 d.1 ∧ RV K μ H x.2 d.2) xs ds
def lP (w : World) (K : PySem.W.Frag) (mp : PM) (σ : L2.St) (H : Hp) (Q : VVs → Hp → Prop) : Prop := ∃ μ S ρ kvs S', Rel w K μ H S ∧ RE K μ H σ ρ ∧ mp ρ S = some (kvs, S') ∧ ∀ μ' H' xs, Ext μ H μ' H' → Rel w K μ' H' S' → RVP K μ' H' xs kvs → Q xs H'
structure PPs (X : Cx) (ps : List (Sem Value × Sem Value)) (mp : PM) : Prop where
  run : ∀ (pins : List (Addr × Obj)) (s : Shared) (σ : L2.St) (H : Hp) (Q : VVs → Hp → Prop), Inv X pins σ H s → lP X.w X.K mp σ H Q →
    wpAny (model X.prog X.w) X.A (evalPairs ps) (fun us s' => ∃ xs H', Inv X pins σ H' s' ∧ RelP xs us ∧ Q xs H') X.xe s
section
variable {X : Cx}
theorem pp_nil : PPs X [] dpNil := ⟨fun pins s σ H Q I h => by
  obtain ⟨μ, S, ρ, kvs, S', R, E, e, P⟩ := h
  obtain ⟨rfl, rfl⟩ := Prod.mk.inj (Option.some.inj e)
  exact wpAny_pure ⟨[], H, I, .nil, P μ H [] Ext.refl R .nil⟩⟩
theorem pp_cons {k v : Expr} {pos : Pos} {ps : List (Sem Value × Sem Value)} {mk mv : EM} {mr : PM} (hk : PE X k (lE X.w X.K mk)) (hv : PE X v (lE X.w X.K mv)) (hr : PPs X ps mr) :
    PPs X ((eval k X.env, do let x ← eval v X.env; standAt pos; pure x) :: ps) (dpCons mk mv mr) := ⟨fun pins s σ H Q I h => by
  obtain ⟨μ, S, ρ, kvs, S', R, E, e, P⟩ := h
  obtain ⟨k1, S1, e1, e2⟩ := bnd_some e
  obtain ⟨v1, S2, e3, e4⟩ := bnd_some e2
  obtain ⟨rs1, S3, e5, e6⟩ := bnd_some e4
  obtain ⟨rfl, rfl⟩ := Prod.mk.inj (Option.some.inj e6)
  unfold evalPairs
  refine wpAny_bind (thn (hk.run pins s σ H (fun x H1 => ∃ μ1, Ext μ H μ1 H1 ∧ Rel X.w X.K μ1 H1 S1 ∧ RV X.K μ1 H1 x k1) I ⟨μ, S, ρ, k1, S1, R, E, e1, fun μ1 H1 x x1 R1 r => ⟨μ1, x1, R1, r⟩⟩) fun uk s1 ⟨x, H1, I1, rx, μ1, x1, R1, r1⟩ => ?_)
  refine wpAny_bind (wpAny_holding (wpAny_bind (thn (hv.run pins s1 σ H1 (fun y H2 => ∃ μ2, Ext μ1 H1 μ2 H2 ∧ Rel X.w X.K μ2 H2 S2 ∧ RV X.K μ2 H2 y v1) I1 ⟨μ1, S1, ρ, v1, S2, R1, E.mono x1, e3, fun μ2 H2 y x2 R2 r => ⟨μ2, x2, R2, r⟩⟩) fun uv s2 ⟨y, H2, I2, ry, μ2, x2, R2, r2⟩ => wpAny_bind (wpAny_standAt (wpAny_pure ?_)))))
  refine wpAny_bind (wpAny_holding (thn (hr.run pins s2 σ H2 (fun xs H3 => ∃ μ3, Ext μ2 H2 μ3 H3 ∧ Rel X.w X.K μ3 H3 S3 ∧ RVP X.K μ3 H3 xs rs1) I2 ⟨μ2, S2, ρ, rs1, S3, R2, (E.mono x1).mono x2, e5, fun μ3 H3 xs x3 R3 r => ⟨μ3, x3, R3, r⟩⟩) fun us s3 ⟨xs, H3, I3, rxs, μ3, x3, R3, r3⟩ => wpAny_pure ?_))
  exact ⟨(x, y) :: xs, H3, I3, .cons ⟨rx, ry⟩ rxs, P μ3 H3 _ ((x1.trans x2).trans x3) R3 (.cons ⟨(r1.mono x2).mono x3, r2.mono x3⟩ r3)⟩⟩
theorem puts_all {pins : List (Addr × Obj)} {σ : L2.St} {A : Around} (hA : A.units + 100 < cLine) {D : Addr} {μ0 : List Addr} {H0 : Hp} (hn : H0 D = none) : ∀ (us : List (Value × Value)) (xs : VVs) (ds : List (VM.D × VM.D)) (kvs kvs' : KV') (μ : List Addr) (H : Hp) (S S' : Store) (s : Shared) (E : Value → Shared → Prop) (Q : PUnit → Shared → Prop),
    Inv X pins σ H s → MidD X.w X.K μ0 H0 D μ H S kvs → RelP xs us → RVP X.K μ H xs ds → putAll ds kvs S = some (kvs', S') →
    (∀ s' H', Inv X pins σ H' s' → MidD X.w X.K μ0 H0 D μ H' S' kvs' → Q PUnit.unit s') →
    wpAny (model X.prog X.w) A (forIn us PUnit.unit fun (x : Value × Value) (_ : PUnit) => (do dictSet D x.1 x.2; pure (ForInStep.yield PUnit.unit) : Sem (ForInStep PUnit))) Q E s
  | [], xs, ds, kvs, kvs', μ, H, S, S', s, E, Q, I, M, rx, rv, e, hQ => by
    cases rx
    cases rv
    obtain ⟨rfl, rfl⟩ := Prod.mk.inj (Option.some.inj e)
    rw [List.forIn_nil]
    exact wpAny_pure (hQ s H I M)
  | (uk, uv) :: us, xs, ds, kvs, kvs', μ, H, S, S', s, E, Q, I, M, rx, rv, e, hQ => by
    cases rx with
    | @cons x _ xs' _ r1 rx =>
      cases rv with
      | @cons _ d _ ds' r2 rv =>
        obtain ⟨dk, dv⟩ := d
        obtain ⟨kvs1, S1, e1, e2⟩ := bnd_some e
        obtain ⟨nk, hk, hf, hz, rfl, rfl⟩ := putM_some e1
        rw [List.forIn_cons]
        refine wpAny_bind (wpAny_bind ((dict_core I M.ro hf hz r1.1 (rv_key r2.1 hk) r1.2 r2.2 hA fun h' tk o I' ro' => wpAny_pure ?_).2))
        have M' := M.put hn ro'
        obtain ⟨φ, hφ⟩ := ro_ext M.ro
        have x0 : Ext0 μ H μ (upd H D o) := ext0_ext hφ
        exact puts_all hA hn us xs' ds' _ kvs' μ _ S1 S' _ E Q I' M' rx (Paired.mapP rv fun a b q => ⟨q.1.mono0 x0, q.2.mono0 x0⟩) e2 hQ
theorem e_disp (G : Good X) {keys : List (Option Expr)} {values : List Expr} {pos : Pos} {ps : List (Sem Value × Sem Value)} {mp : PM} (hp : PPs X ps mp)
    (hs : (evalEachOpt keys X.env).zip ((evalEach values X.env).map fun v => do let x ← v; standAt pos; pure x) = ps.map fun p => (some p.1, p.2) := by rfl) (h0 : ps ≠ [] := by exact List.cons_ne_nil _ _) (hl : ps.length ≤ 15 := by exact Nat.le_of_ble_eq_true rfl) :
    PE X (.Dict keys values pos) (lE X.w X.K (mDisp mp)) := by
  refine ⟨fun pins s σ H Q I h => ?_⟩
  obtain ⟨μ, S, ρ, d, S', R, E, e, P⟩ := h
  obtain ⟨kvs, S1, e1, e2⟩ := bnd_some e
  obtain ⟨kvs', S2, e3, e4⟩ := bnd_some e2
  obtain ⟨rfl, rfl⟩ := Prod.mk.inj (Option.some.inj e4)
  rw [arm_eval_Dict, hs, dictDisplay_pairs ps h0 (by omega)]
  refine wpAny_bind (wpAny_standAt (wpAny_bind ?_))
  have hn : H s.heap.objs.size = none := I.hok.fresh (Nat.le_refl _)
  have lo : (s.heap.objs.size == sysModules) = false := beq_eq_false_iff_ne.mpr (Ne.symm (Nat.ne_of_lt I.big))
  unfold subDict
  refine wpAny_bind (wpAny_alloc ?_)
  have I1 : Inv X pins σ (upd H s.heap.objs.size (.ext (dφ s.heap.objs.size []))) { s with heap := s.heap.push { cls := .type "dict", data := .dict #[] } } :=
    I.laid (t' := s.toks) (fun _ _ q => Heap.get?_push_of_some _ q) (Nat.le_refl _) (dφ_empty s.heap)
  have M1 := MidD.start (S := S) lo hn R
  refine wpAny_bind (wpAny_holding ?_)
  rw [if_pos hl]
  refine wpAny_bind (thn (hp.run pins _ σ _ (fun xs H2 => ∃ μ2, Ext μ (upd H s.heap.objs.size (.ext (dφ s.heap.objs.size []))) μ2 H2 ∧ Rel X.w X.K μ2 H2 S1 ∧ RVP X.K μ2 H2 xs kvs) I1 ⟨μ, S, ρ, kvs, S1, M1.rel, E.mono M1.ex, e1, fun μ2 H2 xs x2 R2 r => ⟨μ2, x2, R2, r⟩⟩) fun us s2 ⟨xs, H2, I2, rx, μ2, x2, R2, r2⟩ => ?_)
  have M2 := M1.step x2 R2
  refine wpAny_holding ?_
  refine wpAny_bind (puts_all (room100 G) hn us xs kvs [] kvs' μ2 H2 S1 S2 s2 _ _ I2 M2 rx r2 e3 fun s3 H3 I3 M3 => ?_)
  obtain ⟨d1, d2, d3⟩ := M3.done hn
  exact wpAny_pure (wpAny_pure (wpAny_pure ⟨.ref s.heap.objs.size, H3, I3, rfl, P _ _ _ d1 d2 d3⟩))
end
section
variable {S : Store} {ρ : Env} {Q : D → Store → Prop} {QP : List (D × D) → Store → Prop} {QK : KV' → Store → Prop} {mk mv : EM} {mr mp : PM}
@[simp] theorem ok_dpNil : Ok (dpNil ρ) S QP ↔ QP [] S := ok_ret
@[simp] theorem ok_dpCons : Ok (dpCons mk mv mr ρ) S QP ↔ Ok (mk ρ) S fun k S1 => Ok (mv ρ) S1 fun v S2 => Ok (mr ρ) S2 fun r S3 => QP ((k, v) :: r) S3 := by unfold dpCons; simp only [ok_bnd, ok_ret]
@[simp] theorem ok_putAllNil {acc : KV'} : Ok (putAll [] acc) S QK ↔ QK acc S := ok_ret
@[simp] theorem ok_putAllCons {k v : D} {r : List (D × D)} {acc : KV'} : Ok (putAll ((k, v) :: r) acc) S QK ↔ Ok (putM acc k v) S fun a S1 => Ok (putAll r a) S1 QK := ok_bnd
@[simp] theorem ok_mDisp : Ok (mDisp mp ρ) S Q ↔ Ok (mp ρ) S fun kvs S1 => Ok (putAll kvs []) S1 fun r S2 => Q (.dct S2.length) (S2 ++ [.dct r]) := by
  unfold mDisp
  simp only [ok_bnd]
  have e : ∀ (r : KV') (S2 : Store), Ok (mkD r) S2 Q ↔ Q (.dct S2.length) (S2 ++ [.dct r]) := fun r S2 => ok_iff rfl
  simp only [e]
end
end VM

/-! VM28: for k in d, {.. for k in d}, [.. for k in d]: the dict is locked meanwhile -/
namespace VM
open PySem PySem.Spec PyProof.Rows L2
/-! ### what the lock takes away and gives back -/
structure Same9 (H H' : Hp) : Prop where
  tup : ∀ b vs, H b = some (.tup vs) → H' b = some (.tup vs)
  frT : ∀ b o vs, H b = some (.frz o (.tup vs)) → H' b = some (.frz o (.tup vs))
  frL : ∀ b o vs, H b = some (.frz o (.lst vs)) → H' b = some (.frz o (.lst vs))
section
variable {w : World} {K : PySem.W.Frag} {μ μ' : List Addr} {H H' : Hp}
theorem Same9.sqT (e : Same9 H H') {a : Addr} {vs : List V} (h : SqT K H a vs) : SqT K H' a vs := by
  rcases h with (h | ⟨o, h⟩) | h
  · exact .inl (.inl (e.tup _ _ h))
  · exact .inl (.inr ⟨o, e.frT _ _ _ h⟩)
  · exact .inr h
theorem Same9.sqN (e : Same9 H H') {a : Addr} {vs : List V} (h : SqN K H a vs) : SqN K H' a vs := by
  rcases h with ⟨o, h, d⟩ | h
  · exact .inl ⟨o, e.frT _ _ _ h, d⟩
  · exact .inr h
theorem Same9.fzL (e : Same9 H H') {a : Addr} {vs : List V} (h : FzL K H a vs) : FzL K H' a vs := by
  rcases h with ⟨o, h⟩ | h
  · exact .inl ⟨o, e.frL _ _ _ h⟩
  · exact .inr h
mutual
theorem RV.map9 (e : Same9 H H') : ∀ {v : V} {d : D}, RV K μ H v d → RV K μ H' v d
  | _, _, .non => .non
  | _, _, .bl b => .bl b
  | _, _, .int i => .int i
  | _, _, .str x => .str x
  | _, _, .tup h r => .tup (e.sqN h) (RVs.map9 e r)
  | _, _, .pr h r => .pr (e.sqT h) (RVs.map9 e r)
  | _, _, .fz h r => .fz (e.fzL h) (RVs.map9 e r)
  | _, _, .lst h => .lst h
  | _, _, .dct h => .dct h
theorem RVs.map9 (e : Same9 H H') : ∀ {vs : List V} {ds : List D}, RVs K μ H vs ds → RVs K μ H' vs ds
  | _, _, .nil => .nil
  | _, _, .cons h r => .cons (RV.map9 e h) (RVs.map9 e r)
end
theorem EntOk.map9 (e : Same9 H H') {en : DictEntry} {kv : NestedKey × D} (h : EntOk w K μ H en kv) : EntOk w K μ H' en kv := by
  obtain ⟨h1, ⟨v, h2, h3⟩, u, h4, h5⟩ := h
  exact ⟨h1, ⟨v, h2, h3.map9 e⟩, u, h4, h5.map9 e⟩
theorem RO.map9 (e : Same9 H H') {a : Addr} (ha : H' a = H a) {o : Ob} (h : RO w K μ H a o) : RO w K μ H' a o := by
  cases o with
  | lst ds =>
    obtain ⟨vs, h1, h2⟩ := h
    exact ⟨vs, ha.trans h1, h2.map9 e⟩
  | dct kvs =>
    obtain ⟨h1, h2, h3, h4, h4', ents, h5, h6⟩ := h
    exact ⟨h1, h2, h3, h4, h4', ents, ha.trans h5, Paired.mapP h6 fun _ _ q => q.map9 e⟩
  | dlk kvs =>
    obtain ⟨h1, h2, h3, h4, h4', ents, ⟨od, h5⟩, h6⟩ := h
    exact ⟨h1, h2, h3, h4, h4', ents, ⟨od, ha.trans h5⟩, Paired.mapP h6 fun _ _ q => q.map9 e⟩
theorem same9_unlock {a : Addr} {od : Obj} {φ : Heap → Prop} (h : H a = some (.frz od (.ext φ))) : Same9 H (upd H a (.ext φ)) :=
  ⟨fun b vs q => by rw [upd_ne (fun z => by rw [z, h] at q; cases q)]; exact q, fun b o vs q => by rw [upd_ne (fun z => by rw [z, h] at q; cases q)]; exact q, fun b o vs q => by rw [upd_ne (fun z => by rw [z, h] at q; cases q)]; exact q⟩
theorem RE.map9 (e : Same9 H H') {σ : L2.St} {ρ : Env} (h : RE K μ H σ ρ) : RE K μ H' σ ρ :=
  ⟨h.1, fun i d q => let ⟨v, h1, h2⟩ := h.2 i d q; ⟨v, h1, h2.map9 e⟩⟩
/-- the state behind the lock -/
theorem Rel.lock {S : Store} {l : Nat} {kvs : List (NestedKey × D)} (R : Rel w K μ H S) (hS : S[l]? = some (.dct kvs)) :
    ∃ a ents, μ[l]? = some a ∧ H a = some (.ext (dφ a ents)) ∧ ∀ od, Rel w K μ (upd H a (.frz od (.ext (dφ a ents)))) (S.set l (.dlk kvs)) ∧ Ext μ H μ (upd H a (.frz od (.ext (dφ a ents)))) := by
  obtain ⟨a, hl, h1, h2, h3, h4, h4', ents, h5, h6⟩ := R.ob _ _ hS
  refine ⟨a, ents, hl, h5, fun od => ?_⟩
  have x := ext_set (μ := μ) (o := .frz od (.ext (dφ a ents))) (List.mem_of_getElem? hl) h5 trivial
  exact ⟨R.set hl h5 trivial ⟨h1, h2, h3, h4, h4', ents, ⟨od, upd_same⟩, Paired.mapP h6 fun _ _ q => q.mono0 x.toExt0⟩, x⟩
/-- .. and ahead of it -/
theorem Rel.unlock {S : Store} {l : Nat} {kvs : List (NestedKey × D)} {a : Addr} {od : Obj} {ents : List DictEntry} (R : Rel w K μ H S) (hl : μ[l]? = some a) (hS : S[l]? = some (.dlk kvs)) (hH : H a = some (.frz od (.ext (dφ a ents)))) :
    Rel w K μ (upd H a (.ext (dφ a ents))) (S.set l (.dct kvs)) := by
  have e := same9_unlock hH
  refine ⟨by rw [List.length_set]; exact R.len, R.nd, fun l' o' q => ?_⟩
  by_cases hll : l' = l
  · subst hll
    rw [List.getElem?_set_self (List.getElem?_eq_some_iff.mp hS).1] at q
    obtain rfl := Option.some.inj q
    obtain ⟨a', g, h1, h2, h3, h4, h4', ents', ⟨od', h5⟩, h6⟩ := R.ob _ _ hS
    rw [hl] at g
    obtain rfl := Option.some.inj g
    rw [hH] at h5
    have h7 : dφ a ents = dφ a ents' := by
      injection h5 with h5
      injection h5 with _ h5
      injection h5
    exact ⟨a, hl, h1, h2, h3, h4, h4', ents', by rw [upd_same, h7], Paired.mapP h6 fun _ _ q => q.map9 e⟩
  · rw [List.getElem?_set_ne (Ne.symm hll)] at q
    obtain ⟨b, h1, h2⟩ := R.ob l' o' q
    refine ⟨b, h1, h2.map9 e (upd_ne fun z => hll ?_)⟩
    subst z
    obtain ⟨i1, e1⟩ := List.getElem?_eq_some_iff.mp h1
    obtain ⟨i2, e2⟩ := List.getElem?_eq_some_iff.mp hl
    exact (List.getElem_inj R.nd).mp (e1.trans e2.symm)
theorem ext_lock {H1 : Hp} {a : Addr} {od : Obj} {ents : List DictEntry} (ha : a ∈ μ) (hH : H a = some (.ext (dφ a ents))) (x : Ext μ (upd H a (.frz od (.ext (dφ a ents)))) μ' H1) :
    H1 a = some (.frz od (.ext (dφ a ents))) ∧ Ext μ H μ' (upd H1 a (.ext (dφ a ents))) := by
  refine ⟨x.frz _ _ _ upd_same, ⟨x.pl, fun b vs h => ?_, fun b o u h => ?_⟩, fun p hp n => ?_⟩
  · have ne : b ≠ a := fun z => by rw [z, hH] at h; cases h
    rw [upd_ne ne]
    exact x.tup b vs (by rw [upd_ne ne]; exact h)
  · have ne : b ≠ a := fun z => by rw [z, hH] at h; cases h
    rw [upd_ne ne]
    exact x.frz b o u (by rw [upd_ne ne]; exact h)
  · have ne : p ≠ a := fun z => hp (z ▸ ha)
    rw [upd_ne ne]
    have := x.kp p hp (by rw [upd_ne ne]; exact n)
    rw [upd_ne ne] at this
    exact this
end
/-! ### the machines -/
open Classical in
noncomputable def lkM {α : Type} (i : Nat) (m : Env → M α) : Env → M α := fun ρ S => match ρ[i]? with
  | some (some (.dct l)) => match S[l]? with
    | some (.dct kvs) => match m ρ (S.set l (.dlk kvs)) with
      | some (d, S') => if S'[l]? = some (.dlk kvs) then some (d, S'.set l (.dct kvs)) else none
      | none => none
    | _ => none
  | _ => none
theorem lkM_some {α : Type} {i : Nat} {m : Env → M α} {ρ : Env} {S S' : Store} {d : α} (h : lkM i m ρ S = some (d, S')) :
    ∃ l kvs S1, ρ[i]? = some (some (.dct l)) ∧ S[l]? = some (.dct kvs) ∧ m ρ (S.set l (.dlk kvs)) = some (d, S1) ∧ S1[l]? = some (.dlk kvs) ∧ S' = S1.set l (.dct kvs) := by
  unfold lkM at h
  split at h
  · rename_i l hl
    split at h
    · rename_i kvs hS
      split at h
      · rename_i d' S1 e
        split at h
        · rename_i h1
          obtain ⟨rfl, rfl⟩ := Prod.mk.inj (Option.some.inj h)
          exact ⟨l, kvs, S1, hl, hS, e, h1, rfl⟩
        · cases h
      · cases h
    · cases h
  · cases h
section
variable {X : Cx}
theorem e_lk {e : Expr} {m : EM} (i : Nat) (he : PE X e (lE X.w X.K m)) : PE X e (lE X.w X.K (lkM i m)) := by
  refine ⟨fun pins s σ H Q I h => ?_⟩
  obtain ⟨μ, S, ρ, d, S', R, E, e0, P⟩ := h
  obtain ⟨l, kvs, S1, hl, hS, e1, h1, rfl⟩ := lkM_some e0
  obtain ⟨a, ents, q1, q2, q3⟩ := R.lock hS
  refine (pe_lock he).run pins s σ H Q I ⟨a, _, q2, trivial, fun od => ?_⟩
  obtain ⟨R1, x1⟩ := q3 od
  refine ⟨μ, _, ρ, d, S1, R1, E.mono x1, e1, fun μ' H' v x2 R2 rv => ?_⟩
  obtain ⟨g1, g2⟩ := ext_lock (List.mem_of_getElem? q1) q2 x2
  exact ⟨g1, P μ' _ v g2 (R2.unlock (x2.pl _ _ q1) h1 g1) (rv.map9 (same9_unlock g1))⟩
theorem s_lk {st : Stmt} {m : SM} (i : Nat) (he : PS X st (lS X.w X.K m)) : PS X st (lS X.w X.K (lkM i m)) := by
  refine ⟨fun pins s σ H D I h => ?_⟩
  obtain ⟨μ, S, ρ, o, S', R, E, e0, P⟩ := h
  obtain ⟨l, kvs, S1, hl, hS, e1, h1, rfl⟩ := lkM_some e0
  obtain ⟨a, ents, q1, q2, q3⟩ := R.lock hS
  refine (ps_lock he).run pins s σ H D I ⟨a, _, q2, trivial, fun od => ?_⟩
  obtain ⟨R1, x1⟩ := q3 od
  refine ⟨μ, _, ρ, o, S1, R1, E.mono x1, e1, ?_⟩
  have fin : ∀ (μ' : List Addr) (H' : Hp), Ext μ (upd H a (.frz od (.ext (dφ a ents)))) μ' H' → Rel X.w X.K μ' H' S1 → H' a = some (.frz od (.ext (dφ a ents))) ∧ Ext μ H μ' (upd H' a (.ext (dφ a ents))) ∧ Rel X.w X.K μ' (upd H' a (.ext (dφ a ents))) (S1.set l (.dct kvs)) ∧ Same9 H' (upd H' a (.ext (dφ a ents))) := fun μ' H' x2 R2 => by
    obtain ⟨g1, g2⟩ := ext_lock (List.mem_of_getElem? q1) q2 x2
    exact ⟨g1, g2, R2.unlock (x2.pl _ _ q1) h1 g1, same9_unlock g1⟩
  cases o with
  | nx ρ' => exact fun μ' H' σ' x2 R2 E2 => let ⟨g1, g2, g3, g4⟩ := fin μ' H' x2 R2; ⟨g1, P μ' _ σ' g2 g3 (E2.map9 g4)⟩
  | bk ρ' => exact fun μ' H' σ' x2 R2 E2 => let ⟨g1, g2, g3, g4⟩ := fin μ' H' x2 R2; ⟨g1, P μ' _ σ' g2 g3 (E2.map9 g4)⟩
  | ct ρ' => exact fun μ' H' σ' x2 R2 E2 => let ⟨g1, g2, g3, g4⟩ := fin μ' H' x2 R2; ⟨g1, P μ' _ σ' g2 g3 (E2.map9 g4)⟩
  | rt d => exact fun μ' H' v x2 R2 rv => let ⟨g1, g2, g3, g4⟩ := fin μ' H' x2 R2; ⟨g1, P μ' _ v g2 g3 (rv.map9 g4)⟩
end
end VM

/-! VM29: walking a locked dict by its keys -/
namespace VM
open PySem PySem.Spec PyProof.Rows L2
def mSeqD (me : EM) : IM := fun ρ => bnd (me ρ) fun d S => match d with
  | .dct l => match S[l]? with
    | some (.dlk kvs) => some ((keysD kvs, [(l, .dlk kvs)]), S)
    | _ => none
  | _ => none
/-- the keys of the locked dict at a -/
def Itdk (a : Addr) (od : Obj) (ents : List DictEntry) : It :=
  ⟨fun i H => H a = some (.frz od (.ext (dφ a ents))) ∧ ∃ en v, ents[i]? = some en ∧ RelV v en.key,
    fun i H x H' => H' = H ∧ ∃ en, ents[i]? = some en ∧ RelV x en.key,
    fun i H => H a = some (.frz od (.ext (dφ a ents))) ∧ ents.length ≤ i⟩
theorem dk_obj {X : Cx} {pins : List (Addr × Obj)} {σ : L2.St} {H : Hp} {s : Shared} (I : Inv X pins σ H s) {a : Addr} {od : Obj} {ents : List DictEntry} (h : H a = some (.frz od (.ext (dφ a ents)))) :
    s.heap.get? a = some od ∧ od.ExactDict ∧ ∃ es ep, od.data = .dict es ep ∧ es.toList = ents := by
  obtain ⟨g, ⟨o, es, ep, q1, q2, q3, q4⟩, _⟩ := (show s.heap.get? a = some od ∧ (dφ a ents) s.heap ∧ _ from I.hok a _ h)
  rw [g] at q1
  obtain rfl := Option.some.inj q1
  exact ⟨g, q2, es, ep, q3, q4⟩
theorem turn_dk {P : Program} {w : World} {K : PySem.W.Frag} {tg : Expr} {a : Addr} {od : Obj} {es : Array DictEntry} {ep : Nat} (it : Addr) (hod : od.data = .dict es ep) :
    Turn P w K tg (Itdk a od es.toList) [it] it (fun i h => h.IsKeyIter it a i es.size ep) where
  mem := by simp
  obj := fun i h st b hb => by
    obtain rfl : b = it := by simpa using hb
    obtain ⟨oi, e, c, dd⟩ := st
    exact ⟨oi, e, fun v z => by rw [dd] at z; cases z⟩
  keep := fun i h h' st k => st.at fun oi e => k it (by simp) oi e
  item := by
    intro X hP hw hK hc i pins s σ H E I hf st hg
    subst hP hw hK
    obtain ⟨hd, en, v, hen, hv⟩ := hg
    obtain ⟨f0, f1, _, f3, f4, f5⟩ := hf it (by simp)
    obtain ⟨g, _, _⟩ := dk_obj I hd
    refine next_key_item st g hod rfl (en := en) (by simpa using hen) fun h' st' sb => ?_
    have I1 : Inv X pins σ H { s with heap := h' } := I.turned (t' := s.toks) (fun b ob hb e => (sb.2 b hb).trans e) f0 f1 f3 f4 f5
    obtain ⟨oi, e, c, dd⟩ := id st'
    exact ⟨en.key, rfl, go_of (s := { s with heap := h' }) e c dd (by decide) ⟨v, H, I1, hv, ⟨rfl, en, hen, hv⟩, st', fun b hb => (hf b hb).1⟩⟩
  done := by
    intro X hP hw hK hc i pins s σ H E I hf st hg
    subst hP hw hK
    obtain ⟨hd, hi⟩ := hg
    obtain ⟨f0, f1, _, f3, f4, f5⟩ := hf it (by simp)
    obtain ⟨g, _, _⟩ := dk_obj I hd
    exact next_key_end (I.ok.hd hc) st g hod rfl (by simpa using hi) fun h' eb => ⟨rfl, I.turned (t' := s.toks) (fun b ob hb e => eb b ob hb e) f0 f1 f3 f4 f5⟩
  self := fun A i s Q E st h => wpAny_pyIter_keyiter st h
theorem dφ_inj {a : Addr} {x y : List DictEntry} (h : dφ a x = dφ a y) : x = y := by
  let o : Obj := { cls := .type "dict", data := .dict x.toArray 0 }
  let hp : Heap := { objs := Array.replicate (a + 1) o }
  have hg : hp.get? a = some o := by
    unfold Heap.get?
    have : hp.objs[a]? = some o := by
      show (Array.replicate (a + 1) o)[a]? = some o
      rw [Array.getElem?_replicate, if_pos (Nat.lt_succ_self a)]
    rw [this]
  have h1 : dφ a x hp := ⟨o, x.toArray, 0, hg, ⟨rfl, rfl, rfl⟩, rfl, by simp⟩
  rw [h] at h1
  obtain ⟨o', es, ep, q1, _, q3, q4⟩ := h1
  rw [hg] at q1
  obtain rfl := Option.some.inj q1
  have q5 : Data.dict x.toArray 0 = Data.dict es ep := q3
  injection q5 with q5 _
  rw [← q4, ← q5]
theorem paired_get {α β : Type} {F : α → β → Prop} : ∀ {xs : List α} {ys : List β} {i : Nat} {y : β}, Paired F xs ys → ys[i]? = some y → ∃ x, xs[i]? = some x ∧ F x y
  | _, _, _, _, .nil, h => by simp at h
  | _, _, 0, _, .cons f _, h => by
    obtain rfl := Option.some.inj h
    exact ⟨_, rfl, f⟩
  | _, _, i + 1, y, .cons _ t, h => by
    obtain ⟨x, h1, h2⟩ := paired_get (i := i) (y := y) t (by simpa using h)
    exact ⟨x, by simpa using h1, h2⟩
theorem walk_dk {w : World} {K : PySem.W.Frag} {μ : List Addr} {H : Hp} {l : Nat} {a : Addr} {kvs : KV'} {od : Obj} {ents : List DictEntry} (hl : μ[l]? = some a) (hH : H a = some (.frz od (.ext (dφ a ents)))) :
    Walk w K μ H (Itdk a od ents) (keysD kvs) [(l, .dlk kvs)] := by
  intro μ' H' S' e R L
  have hS : S'[l]? = some (.dlk kvs) := L _ (List.mem_singleton.mpr rfl)
  obtain ⟨a', g, h1, h2, h3, h4, h4', ents', ⟨od', h5⟩, h6⟩ := R.ob _ _ hS
  rw [e.pl _ _ hl] at g
  obtain rfl := Option.some.inj g
  have hH' := e.frz _ _ _ hH
  rw [hH'] at h5
  have h7 : ents = ents' := by
    injection h5 with h5
    injection h5 with _ h5
    injection h5 with h5
    exact dφ_inj h5
  subst h7
  have hlen := h6.length
  refine ⟨fun i hi => ⟨hH', by unfold keysD at hi; rw [List.length_map] at hi; omega⟩, fun i d hd => ?_⟩
  unfold keysD at hd
  rw [List.getElem?_map] at hd
  obtain ⟨kv, hkv, rfl⟩ := Option.map_eq_some_iff.mp hd
  obtain ⟨en, hen, _, ⟨v, hv, rv⟩, _⟩ := paired_get h6 hkv
  refine ⟨⟨hH', en, v, hen, hv⟩, fun x H2 y => ?_⟩
  obtain ⟨rfl, en', hen', hx⟩ := y
  rw [hen] at hen'
  obtain rfl := Option.some.inj hen'
  rw [hx.inj hv]
  exact ⟨Ext.refl, fun _ _ => rfl, rv⟩
section
variable {X : Cx} {tg : Expr}
theorem i_seqD {e : Expr} {me : EM} (he : PE X e (lE X.w X.K me)) : PI X tg e (lI X.w X.K (mSeqD me)) := by
  refine ⟨fun pins s σ H R I h => ?_⟩
  obtain ⟨μ, S, ρ, items, lv, S', R0, E, e0, P⟩ := h
  obtain ⟨d, S1, e1, e2⟩ := bnd_some e0
  obtain ⟨l, kvs, rfl, hS, rfl, rfl, rfl⟩ : ∃ l kvs, d = .dct l ∧ S1[l]? = some (.dlk kvs) ∧ items = keysD kvs ∧ lv = [(l, .dlk kvs)] ∧ S' = S1 := by
    split at e2
    · rename_i l
      split at e2
      · rename_i kvs hS
        obtain ⟨q, rfl⟩ := Prod.mk.inj (Option.some.inj e2)
        obtain ⟨rfl, rfl⟩ := Prod.mk.inj q
        exact ⟨l, kvs, rfl, hS, rfl, rfl, rfl⟩
      · cases e2
    · cases e2
  refine thn (he.run pins s σ H (fun v H1 => ∃ μ1, Ext μ H μ1 H1 ∧ Rel X.w X.K μ1 H1 S' ∧ RV X.K μ1 H1 v (.dct l)) I ⟨μ, S, ρ, .dct l, S', R0, E, e1, fun μ1 H1 v x1 R1 r1 => ⟨μ1, x1, R1, r1⟩⟩) fun u s1 ⟨v, H1, I1, rv, μ1, x1, R1, r1⟩ => ?_
  cases r1 with
  | @dct a _ hl =>
    cases rv
    obtain ⟨a', g, lo, _, _, _, _, ents, ⟨od, hH⟩, _⟩ := R1.ob _ _ hS
    rw [hl] at g
    obtain rfl := Option.some.inj g
    obtain ⟨g1, g2, es, ep, g3, rfl⟩ := dk_obj I1 hH
    refine iter_keys lo g1 g2 g3 (pi_one (tk := s1.toks) I1 _ (turn_dk _ g3) ⟨_, Heap.get?_push_size _ rfl, rfl, rfl⟩ (P μ1 H1 _ x1 R1 (walk_dk hl hH)))
end
section
variable {S : Store} {ρ : Env} {QI : List D × Lv → Store → Prop} {me : EM}
theorem ok_mSeqD : Ok (mSeqD me ρ) S QI ↔ Ok (me ρ) S fun d S1 => ∃ l kvs, d = .dct l ∧ S1[l]? = some (.dlk kvs) ∧ QI (keysD kvs, [(l, .dlk kvs)]) S1 := by
  unfold mSeqD
  rw [ok_bnd]
  constructor
  · exact fun h => h.imp fun d S1 ⟨p, S2, e, q⟩ => by
      cases d with
      | dct l =>
        dsimp only at e
        split at e
        · rename_i kvs hS
          obtain ⟨rfl, rfl⟩ := Prod.mk.inj (Option.some.inj e)
          exact ⟨l, kvs, rfl, hS, q⟩
        · cases e
      | _ => cases e
  · exact fun h => h.imp fun d S1 ⟨l, kvs, e, hS, q⟩ => by
      subst e
      exact ⟨_, S1, by dsimp only; rw [hS], q⟩
/-- locked: what stands at the place is the same behind -/
theorem ok_lkM {α : Type} {i l : Nat} {kvs : KV'} {m : Env → M α} {Q : α → Store → Prop} (hl : ρ[i]? = some (some (.dct l))) (hS : S[l]? = some (.dct kvs)) :
    Ok (lkM i m ρ) S Q ↔ Ok (m ρ) (S.set l (.dlk kvs)) fun d S1 => S1[l]? = some (.dlk kvs) ∧ Q d (S1.set l (.dct kvs)) := by
  constructor
  · rintro ⟨d, S', e, q⟩
    obtain ⟨l', kvs', S1, h1, h2, h3, h4, rfl⟩ := lkM_some e
    rw [hl] at h1
    obtain rfl : l = l' := by injection h1 with h1; injection h1 with h1; injection h1
    rw [hS] at h2
    obtain rfl : kvs = kvs' := by injection h2 with h2; injection h2
    exact ⟨d, S1, h3, h4, q⟩
  · rintro ⟨d, S1, e, h4, q⟩
    refine ⟨d, _, ?_, q⟩
    unfold lkM
    rw [hl]
    dsimp only
    rw [hS]
    dsimp only
    rw [e]
    dsimp only
    rw [if_pos h4]
end
end VM

/-! VM30: the calculus: while, two fors in a comprehension, dicts with numbers as keys -/
namespace VM
open PySem PySem.Spec PyProof.Rows L2
section
open Classical
variable {lv : Lv} {g g1 : GM} {body : SM} {t t1 c : TM} {me : EM} {mi1 : IM} {vs1 : List Nat}
theorem ok_while (I : Nat → Env → Store → Prop) {N : Nat} {ρ : Env} {S : Store} {Q : Out → Store → Prop} (hN : N < 1000000) (h0 : I N ρ S)
    (hs : ∀ n ρ S, I n ρ S → Ok (c ρ) S fun b S1 => if b = true then Ok (body ρ) S1 (afterB (fun ρ2 S2 => ∃ m, m < n ∧ I m ρ2 S2) Q) else Q (.nx ρ) S1) : Ok (sWhile c body ρ) S Q := by
  have go : ∀ (k n : Nat) (ρ : Env) (S : Store), n < k → I n ρ S → Ok (whileN c body k ρ) S Q := by
    intro k
    induction k with
    | zero => intro n ρ S h; omega
    | succ k ih =>
      intro n ρ S h i
      unfold whileN
      rw [ok_bnd]
      refine (hs n ρ S i).imp fun b S1 q => ?_
      cases b with
      | false => simpa using q
      | true =>
        simp only [if_true] at q ⊢
        rw [ok_bnd]
        refine q.imp fun o S2 q => ?_
        cases o with
        | nx ρ2 =>
          obtain ⟨m, h1, h2⟩ := q
          exact ih m ρ2 S2 (by omega) h2
        | ct ρ2 =>
          obtain ⟨m, h1, h2⟩ := q
          exact ih m ρ2 S2 (by omega) h2
        | bk ρ2 => exact ok_ret.mpr q
        | rt r => exact ok_ret.mpr q
  exact go 1000000 N ρ S hN h0
theorem ok_mComp2 {vs : List Nat} {mi : IM} {ρ : Env} {S : Store} {Q : D → Store → Prop} : Ok (mComp2 vs mi g t vs1 mi1 g1 t1 me ρ) S Q ↔ Ok (mi ρ) S fun p S1 => Ok (compGo2 p.2 g t vs1 mi1 g1 t1 me (wipeE vs ρ) p.1) S1 fun r S2 => Ok (mkL r) S2 Q := by unfold mComp2; simp only [ok_bnd]
theorem ok_comp2 (I : List D → List D → Store → Prop) {ds : List D} {ρ : Env} {S : Store} {Q : List D → Store → Prop} (h0 : I [] [] S) (hl : ∀ pre acc S, I pre acc S → Live lv S)
    (hs : ∀ pre d post acc S, ds = pre ++ d :: post → I pre acc S → Ok (g d ρ) S fun ρ1 S1 => Ok (t ρ1) S1 fun b S2 => if b = true then Ok (mi1 ρ1) S2 fun p S3 => Ok (compGo p.2 g1 t1 me (wipeE vs1 ρ1) p.1) S3 fun r S4 => I (pre ++ [d]) (acc ++ r) S4 else I (pre ++ [d]) acc S2)
    (he : ∀ acc S, I ds acc S → Q acc S) : Ok (compGo2 lv g t vs1 mi1 g1 t1 me ρ ds) S Q := by
  have go : ∀ (post pre acc : List D) (S : Store), ds = pre ++ post → I pre acc S → Ok (compGo2 lv g t vs1 mi1 g1 t1 me ρ post) S fun r S' => I ds (acc ++ r) S' := by
    intro post
    induction post with
    | nil =>
      intro pre acc S e i
      rw [List.append_nil] at e
      subst e
      exact ⟨[], S, by unfold compGo2; rw [if_pos (hl _ _ _ i)], by simpa using i⟩
    | cons d post ih =>
      intro pre acc S e i
      obtain ⟨ρ1, S1, e1, b, S2, e2, q⟩ := hs pre d post acc S e i
      have lvS := hl _ _ _ i
      cases b with
      | false =>
        obtain ⟨r, S', e3, q'⟩ := ih (pre ++ [d]) acc S2 (by rw [e]; simp) (by simpa using q)
        refine ⟨r, S', ?_, q'⟩
        show (if Live lv S then _ else none) = _
        rw [if_pos lvS]
        unfold bnd
        rw [e1]
        dsimp only
        rw [e2]
        exact e3
      | true =>
        obtain ⟨p, S3, e4, r1, S4, e5, q2⟩ : Ok (mi1 ρ1) S2 fun p S3 => Ok (compGo p.2 g1 t1 me (wipeE vs1 ρ1) p.1) S3 fun r S4 => I (pre ++ [d]) (acc ++ r) S4 := by simpa using q
        obtain ⟨r, S', e3, q'⟩ := ih (pre ++ [d]) (acc ++ r1) S4 (by rw [e]; simp) q2
        refine ⟨r1 ++ r, S', ?_, by simpa using q'⟩
        show (if Live lv S then _ else none) = _
        rw [if_pos lvS]
        unfold bnd
        rw [e1]
        dsimp only
        rw [e2]
        dsimp only
        rw [if_pos rfl, e4]
        dsimp only
        rw [e5]
        dsimp only
        rw [e3]
        rfl
  exact (go ds [] [] S rfl h0).imp fun r S' i => he _ _ (by simpa using i)
end
/-! ### numbers as keys -/
def kvF (L : List (Nat × D)) : KV' := L.map fun (p : Nat × D) => (NestedKey.num (p.1 : Int), p.2)
def kvT (M : List Nat) : KV' := M.map fun (x : Nat) => (NestedKey.num (x : Int), D.bl true)
theorem num_inj {x y : Nat} : NestedKey.num (x : Int) = NestedKey.num (y : Int) ↔ x = y := ⟨fun h => by injection h with h; omega, fun h => by rw [h]⟩
@[simp] theorem kvT_length {M : List Nat} : (kvT M).length = M.length := List.length_map _
@[simp] theorem kvF_length {L : List (Nat × D)} : (kvF L).length = L.length := List.length_map _
theorem key_nat {x : Nat} : D.key (.int (x : Int)) = some (.num (x : Int)) := rfl
theorem kvT_fits {M : List Nat} {x : Nat} : fits (kvT M) (.num (x : Int)) = true := by
  unfold fits kvT
  rw [Bool.and_eq_true, List.all_map]
  refine ⟨?_, decide_eq_true (by simp [NestedKey.depth])⟩
  rw [List.all_eq_true]
  intro q _
  rfl
theorem kvF_fits {L : List (Nat × D)} {x : Nat} : fits (kvF L) (.num (x : Int)) = true := by
  unfold fits kvF
  rw [Bool.and_eq_true, List.all_map]
  refine ⟨?_, decide_eq_true (by simp [NestedKey.depth])⟩
  rw [List.all_eq_true]
  intro q _
  rfl
theorem kvT_get {M : List Nat} {x : Nat} : dget (kvT M) (.num (x : Int)) = if x ∈ M then some (.bl true) else none := by
  induction M with
  | nil => rfl
  | cons q L ih =>
    unfold dget kvT at ih ⊢
    rw [List.map_cons, List.find?_cons]
    by_cases h : q = x
    · subst h
      simp
    · have h2 : decide (NestedKey.num (q : Int) = NestedKey.num (x : Int)) = false := by rw [decide_eq_false]; rw [num_inj]; exact h
      have h3 : ¬ x = q := fun e => h e.symm
      simp only [h2, List.mem_cons, h3, false_or]
      exact ih
theorem kvF_get {L : List (Nat × D)} {x : Nat} : dget (kvF L) (.num (x : Int)) = (L.find? fun p => decide (p.1 = x)).map (·.2) := by
  induction L with
  | nil => rfl
  | cons q L ih =>
    unfold dget kvF at ih ⊢
    rw [List.map_cons, List.find?_cons, List.find?_cons]
    by_cases h : q.1 = x
    · have h2 : decide (NestedKey.num (q.1 : Int) = NestedKey.num (x : Int)) = true := by rw [decide_eq_true]; rw [num_inj]; exact h
      simp only [h2, decide_eq_true h, Option.map_some]
    · have h2 : decide (NestedKey.num (q.1 : Int) = NestedKey.num (x : Int)) = false := by rw [decide_eq_false]; rw [num_inj]; exact h
      simp only [h2, decide_eq_false h]
      exact ih
theorem kvT_put {M : List Nat} {x : Nat} : dput (kvT M) (.num (x : Int)) (.bl true) = if x ∈ M then kvT M else kvT (M ++ [x]) := by
  unfold dput
  rw [kvT_get]
  by_cases h : x ∈ M
  · simp only [h, if_true, Option.isSome_some]
    unfold kvT
    rw [List.map_map]
    refine List.map_congr_left fun q _ => ?_
    dsimp only [Function.comp]
    split
    · rename_i e
      rw [e]
    · rfl
  · simp only [h, if_false, Option.isSome_none]
    unfold kvT
    rw [List.map_append]
    rfl
theorem kvF_putNew {L : List (Nat × D)} {x : Nat} {d : D} (h : x ∉ L.map (·.1)) : dput (kvF L) (.num (x : Int)) d = kvF (L ++ [(x, d)]) := by
  unfold dput
  have e : dget (kvF L) (.num (x : Int)) = none := by
    rw [kvF_get, Option.map_eq_none_iff, List.find?_eq_none]
    intro p hp q
    exact h (List.mem_map.mpr ⟨p, hp, of_decide_eq_true q⟩)
  rw [e]
  unfold kvF
  rw [List.map_append]
  rfl
theorem keysD_kvT {M : List Nat} : keysD (kvT M) = natD M := by
  unfold keysD kvT natD
  rw [List.map_map]
  rfl
theorem keysD_kvF {L : List (Nat × D)} : keysD (kvF L) = natD (L.map (·.1)) := by
  unfold keysD kvF natD
  rw [List.map_map, List.map_map]
  rfl
section
variable {S : Store} {l x : Nat} {M : List Nat} {L : List (Nat × D)} {Q : D → Store → Prop}
theorem look_nat {kvs : KV'} (h : S[l]? = some (.dct kvs) ∨ S[l]? = some (.dlk kvs)) (hf : fits kvs (.num (x : Int)) = true) : lookD S (.dct l) (.int (x : Int)) = some (dget kvs (.num (x : Int))) := by
  have e : dictOf S (.dct l) = some kvs := by
    unfold dictOf
    rcases h with h | h <;> simp only [h]
  unfold lookD
  rw [e, key_nat]
  dsimp only
  rw [if_pos hf]
theorem ok_inT (h : S[l]? = some (.dct (kvT M)) ∨ S[l]? = some (.dlk (kvT M))) : Ok (inA (.int (x : Int)) (.dct l)) S Q ↔ Q (.bl (decide (x ∈ M))) S := by
  refine ok_iff ?_
  show (lookD S (.dct l) (.int (x : Int))).map _ = _
  rw [look_nat h kvT_fits, kvT_get]
  by_cases c : x ∈ M <;> simp [c]
theorem ok_ninT (h : S[l]? = some (.dct (kvT M)) ∨ S[l]? = some (.dlk (kvT M))) : Ok (ninA (.int (x : Int)) (.dct l)) S Q ↔ Q (.bl (!decide (x ∈ M))) S := by
  refine ok_iff ?_
  show (lookD S (.dct l) (.int (x : Int))).map _ = _
  rw [look_nat h kvT_fits, kvT_get]
  by_cases c : x ∈ M <;> simp [c]
theorem ok_inF (h : S[l]? = some (.dct (kvF L)) ∨ S[l]? = some (.dlk (kvF L))) : Ok (inA (.int (x : Int)) (.dct l)) S Q ↔ Q (.bl (decide (x ∈ L.map (·.1)))) S := by
  refine ok_iff ?_
  show (lookD S (.dct l) (.int (x : Int))).map _ = _
  rw [look_nat h kvF_fits, kvF_get]
  have : ((L.find? fun p => decide (p.1 = x)).map (·.2)).isSome = decide (x ∈ L.map (·.1)) := by
    rw [Bool.eq_iff_iff, Option.isSome_map, List.find?_isSome, decide_eq_true_eq, List.mem_map]
    simp
  show some (D.bl _, S) = _
  rw [this]
theorem ok_ixF {d : D} (h : S[l]? = some (.dct (kvF L)) ∨ S[l]? = some (.dlk (kvF L))) (hd : (L.find? fun p => decide (p.1 = x)).map (·.2) = some d) : Ok (ixA (.dct l) (.int (x : Int))) S Q ↔ Q d S := by
  refine ok_iff ?_
  show (match lookD S (.dct l) (.int (x : Int)) with
    | some (some d) => some (d, S)
    | _ => none) = _
  rw [look_nat h kvF_fits, kvF_get, hd]
theorem ok_setT {Q : Unit → Store → Prop} (h : S[l]? = some (.dct (kvT M))) (hl : M.length < lim) : Ok (setA (.dct l) (.int (x : Int)) (.bl true)) S Q ↔ Q () (S.set l (.dct (kvT (if x ∈ M then M else M ++ [x])))) := by
  refine ok_iff ?_
  show (match S[l]?, D.key (.int (x : Int)) with
    | some (.dct kvs), some nk => if fits kvs nk = true ∧ kvs.length < lim then some ((), S.set l (.dct (dput kvs nk (.bl true)))) else none
    | _, _ => none) = _
  rw [h, key_nat]
  dsimp only
  rw [if_pos ⟨kvT_fits, by rw [kvT_length]; exact hl⟩, kvT_put]
  split <;> rfl
theorem rowOf_dct {kvs : KV'} (h : S[l]? = some (.dct kvs)) : rowOf S (.dct l) = some (keysD kvs) := by
  unfold rowOf
  simp only [h]
end
end VM

/-! VM31: constants of the module: tuples, written dicts with text keys -/
namespace VM
open PySem PySem.Spec PyProof.Rows L2
/-! ### a written value in the module's heap -/
mutual
def chkD (K : PySem.W.Frag) : D → Value → Bool
  | .non, .none => true
  | .bl b, .bool c => b == c
  | .int i, .int j _ => decide (i = j)
  | .str x, .str y _ => decide (x = y)
  | .tup ds, .ref a => match K.lookup a with
    | some ⟨.type c, none, .seq its _, _⟩ => decide (c = "tuple") && (Nat.ble its.size 1000 && chkDs K ds its.toList)
    | _ => false
  | _, _ => false
def chkDs (K : PySem.W.Frag) : List D → List Value → Bool
  | [], [] => true
  | d :: ds, u :: us => chkD K d u && chkDs K ds us
  | _, _ => false
end
/-- a value u that is d wherever it stands -/
def CnV (K : PySem.W.Frag) (u : Value) (d : D) : Prop := ∃ v, RelV v u ∧ ∀ μ H, RV K μ H v d
theorem band {a b : Bool} (h : (a && b) = true) : a = true ∧ b = true := Bool.and_eq_true_iff.mp h
mutual
theorem chkD_ok {K : PySem.W.Frag} : ∀ (d : D) (u : Value), chkD K d u = true → CnV K u d
  | .non, u, h => by
    cases u with
    | none => exact ⟨.non, rfl, fun _ _ => .non⟩
    | _ => cases h
  | .bl b, u, h => by
    cases u with
    | bool c =>
      obtain rfl : b = c := eq_of_beq (show (b == c) = true from h)
      exact ⟨.bl b, rfl, fun _ _ => .bl b⟩
    | _ => cases h
  | .int i, u, h => by
    cases u with
    | int j t =>
      obtain rfl : i = j := of_decide_eq_true h
      exact ⟨.int i, ⟨t, rfl⟩, fun _ _ => .int i⟩
    | _ => cases h
  | .str x, u, h => by
    cases u with
    | str y t =>
      obtain rfl : x = y := of_decide_eq_true h
      exact ⟨.str x, ⟨t, rfl⟩, fun _ _ => .str x⟩
    | _ => cases h
  | .tup ds, u, h => by
    cases u with
    | ref a =>
      have h1 : (match K.lookup a with
        | some ⟨.type c, none, .seq its _, _⟩ => decide (c = "tuple") && (Nat.ble its.size 1000 && chkDs K ds its.toList)
        | _ => false) = true := h
      cases q : K.lookup a with
      | none => rw [q] at h1; cases h1
      | some o =>
        obtain ⟨oc, od, dt, osl⟩ := o
        rw [q] at h1
        cases oc with
        | type c =>
          cases od with
          | none =>
            cases dt with
            | seq its n =>
              obtain ⟨h2, h3⟩ := band (show (decide (c = "tuple") && (Nat.ble its.size 1000 && chkDs K ds its.toList)) = true from h1)
              obtain ⟨h4, h5⟩ := band h3
              obtain rfl : c = "tuple" := of_decide_eq_true h2
              obtain ⟨vs, r1, r2⟩ := chkDs_ok ds its.toList h5
              have hz : its.size ≤ sizeLine := Nat.le_trans (Nat.le_of_ble_eq_true h4) (by rw [sizeLine_eq]; decide)
              exact ⟨.ref a, rfl, fun μ H => .tup (.inr ⟨_, its, n, q, rfl, rfl, rfl, hz, r1⟩) (r2 μ H)⟩
            | _ => cases h1
          | some _ => cases dt <;> cases h1
        | _ => cases od <;> cases dt <;> cases h1
    | _ => cases h
  | .pr ds, u, h => by cases u <;> cases h
  | .fz ds, u, h => by cases u <;> cases h
  | .lst l, u, h => by cases u <;> cases h
  | .dct l, u, h => by cases u <;> cases h
theorem chkDs_ok {K : PySem.W.Frag} : ∀ (ds : List D) (us : List Value), chkDs K ds us = true → ∃ vs, Vals vs us ∧ ∀ μ H, RVs K μ H vs ds
  | [], us, h => by
    cases us with
    | nil => exact ⟨[], .nil, fun _ _ => .nil⟩
    | cons _ _ => cases h
  | d :: ds, us, h => by
    cases us with
    | nil => cases h
    | cons u us =>
      obtain ⟨h1, h2⟩ := band (show (chkD K d u && chkDs K ds us) = true from h)
      obtain ⟨v, a1, a2⟩ := chkD_ok d u h1
      obtain ⟨vs, b1, b2⟩ := chkDs_ok ds us h2
      exact ⟨v :: vs, .cons a1 b1, fun μ H => .cons (a2 μ H) (b2 μ H)⟩
end
/-! ### what the head tells of constants -/
inductive Cn where
  | val (x : Str) (d : D)
  | tab (x : Str) (kvs : List (Str × D))
def tabB (K : PySem.W.Frag) (a : Addr) (kvs : List (Str × D)) : Bool := kvs.all fun q => match PySem.W.nsIn K a q.1 with
  | some (some u) => chkD K q.2 u
  | _ => false
def Cn.ok (K : PySem.W.Frag) : Cn → Bool
  | .val x d => (match PySem.W.nsIn K mainGlobals x with
    | some (some u) => chkD K d u
    | _ => false)
  | .tab x kvs => He.eqO (PySem.W.nsIn K mainGlobals x) (some (some (.ref (He.ga K x)))) && tabB K (He.ga K x) kvs
def Cn.tabs : Cn → List He.Tab
  | .val _ _ => []
  | .tab x kvs => [((fun K => He.ga K x), kvs.map (·.1))]
abbrev AlX : Type := He.AlT × Bool
def tabsOf (cs : List Cn) : List He.Tab := cs.flatMap Cn.tabs
def obsX (fa : List He.Fa) (fn : List He.DefD) (cs : List Cn) (K : PySem.W.Frag) : AlX := (He.obsT fa fn (tabsOf cs) K, cs.all fun c => c.ok K)
def valX (fn : List He.DefD) (cs : List Cn) (w : World) : AlX := (He.valT fn (tabsOf cs) w, true)
def SaysX (fa : List He.Fa) (fn : List He.DefD) (cs : List Cn) (w : World) (K : PySem.W.Frag) : Prop := obsX fa fn cs K = valX fn cs w
def obsXG (n : Nat) (fa : List He.Fa) (fn : List He.DefD) (cs : List Cn) (g : Addr → Option Obj) : AlX := obsX fa fn cs (He.frG g (He.asD g n))
def hookX (n : Nat) (fa : List He.Fa) (fn : List He.DefD) (cs : List Cn) : PySem.W.Hook where
  α := AlX
  obs := fun s => obsXG n fa fn cs s.heap.get?
  val := fun w => valX fn cs w
  says := fun w h => ∃ K : PySem.W.Frag, K.In h ∧ SaysX fa fn cs w K
  of := fun _ _ e => ⟨_, He.frG_in, e⟩
  keeps := fun _ _ _ ⟨K, hK, c⟩ k => ⟨K, PySem.W.Frag.In.keeps hK k, c⟩
theorem obsXG_eq {n : Nat} {fa : List He.Fa} {fn : List He.DefD} {cs : List Cn} {g : Addr → Option Obj} {s : Shared} (h : ∀ a, g a = s.heap.get? a) : obsXG n fa fn cs g = (hookX n fa fn cs).obs s := by
  have e : g = s.heap.get? := funext h
  rw [e] <;> rfl
/-- a written dict of the module: its values by key -/
def KTab (K : PySem.W.Frag) (w : World) (a : Addr) (kvs : List (Str × D)) : Prop := (∃ es n, KDict K w a es n) ∧ ∀ q ∈ kvs, ∃ u, PySem.W.nsIn K a q.1 = some (some u) ∧ CnV K u q.2
section
variable {fa : List He.Fa} {fn : List He.DefD} {cs : List Cn} {w : World} {K : PySem.W.Frag} {h : Heap} {mg : Str → Option Value}
theorem SaysX.t (c : SaysX fa fn cs w K) : He.SaysT fa fn (tabsOf cs) w K := congrArg (fun z : AlX => z.1) c
theorem SaysX.d (c : SaysX fa fn cs w K) : He.SaysD fa fn K := c.t.d
theorem SaysX.con (c : SaysX fa fn cs w K) (i : Nat) {f : Cn} (h : cs[i]? = some f := by rfl) : f.ok K = true := by
  have c1 : (cs.all fun c => c.ok K) = true := congrArg (fun z : AlX => z.2) c
  exact List.all_eq_true.mp c1 f (List.mem_of_getElem? h)
theorem con_val (X : K.In h) (G : h.Ns mainGlobals mg) {x : Str} {d : D} (c : (Cn.val x d).ok K = true) : ∃ u, mg x = some u ∧ CnV K u d := by
  have c2 : (match PySem.W.nsIn K mainGlobals x with
    | some (some u) => chkD K d u
    | _ => false) = true := c
  cases e : PySem.W.nsIn K mainGlobals x with
  | none => rw [e] at c2; cases c2
  | some o =>
    rw [e] at c2
    cases o with
    | none => cases c2
    | some v => exact ⟨v, PySem.W.mg_of X G e, chkD_ok d v c2⟩
theorem con_tab (X : K.In h) (G : h.Ns mainGlobals mg) {x : Str} {kvs : List (Str × D)} (s : SaysX fa fn cs w K) (c : (Cn.tab x kvs).ok K = true) (i : Nat) (hi : (tabsOf cs)[i]? = some ((fun K => He.ga K x), kvs.map (·.1)) := by rfl) :
    ∃ a, mg x = some (.ref a) ∧ KTab K w a kvs := by
  obtain ⟨c1, c2⟩ := band c
  refine ⟨He.ga K x, PySem.W.mg_of X G (He.eqO_ok c1), s.t.tab i hi, fun q hq => ?_⟩
  have c3 := List.all_eq_true.mp c2 q hq
  cases e : PySem.W.nsIn K (He.ga K x) q.1 with
  | none => rw [e] at c3; cases c3
  | some o =>
    rw [e] at c3
    cases o with
    | none => cases c3
    | some v => exact ⟨v, rfl, chkD_ok _ v c3⟩
end
/-! ### the rules -/
def tabGet (kvs : List (Str × D)) (z : Str) : Option D := (kvs.find? fun q => decide (q.1 = z)).map (·.2)
theorem tabGet_mem {kvs : List (Str × D)} {z : Str} {d : D} (h : tabGet kvs z = some d) : (z, d) ∈ kvs := by
  unfold tabGet at h
  obtain ⟨q, h1, rfl⟩ := Option.map_eq_some_iff.mp h
  have h2 := List.mem_of_find?_eq_some h1
  have h3 : q.1 = z := of_decide_eq_true (List.find?_some (p := fun q : Str × D => decide (q.1 = z)) h1)
  rw [← h3]
  exact h2
def tabIn (kvs : List (Str × D)) (b : Bool) : D → M D
  | .str z => fun S => (tabGet kvs z).map fun _ => (.bl b, S)
  | _ => fail
def tabIx (kvs : List (Str × D)) : D → M D
  | .str z => fun S => (tabGet kvs z).map fun d => (d, S)
  | _ => fail
section
variable {X : Cx} {x : Str} {a : Expr} {ma : EM} {p pos : Pos} {kvs : List (Str × D)} {d0 : D}
theorem e_con (h : ∃ u, X.mg x = some u ∧ CnV X.K u d0) (hg : Gl X x := by rfl) (hd : (x == ("__debug__" : Str)) = false := by decide) : PE X (.Name x pos) (lE X.w X.K (mC d0)) := by
  obtain ⟨u, hu, v, r, rv⟩ := h
  exact pe_imp (pe_glob hg hu r hd) fun _ _ _ h => lE_c (fun _ _ => rfl) rv h
theorem e_tabNin (h : ∃ a, X.mg x = some (.ref a) ∧ KTab X.K X.w a kvs) (ha : PE X a (lE X.w X.K ma)) (hg : Gl X x := by rfl) (hd : (x == ("__debug__" : Str)) = false := by decide) (hm : behindInMarks .NotIn (.Name x p) = false := by first | exact nomark _ | with_unfolding_all rfl) :
    PE X (.Compare a [.NotIn] [.Name x p] pos) (lE X.w X.K (m1 (tabIn kvs false) ma)) := by
  obtain ⟨t, ht, ⟨es, n, kd⟩, hk⟩ := h
  refine pe_imp (pe_cmpR (op_notIn_kd kd) ha (pe_glob (v := .ref t) hg ht rfl hd) hm) fun σ H Q h => ?_
  obtain ⟨μ, S, ρ, d, S', R, E, e, P⟩ := h
  obtain ⟨d1, S1, e1, e2⟩ := bnd_some e
  refine ⟨μ, S, ρ, d1, S1, R, E, e1, fun μ1 H1 v x1 R1 r1 => ?_⟩
  cases r1 with
  | str z =>
    obtain ⟨y, hy, e3⟩ := Option.map_eq_some_iff.mp (show (tabGet kvs z).map _ = some _ from e2)
    obtain ⟨rfl, rfl⟩ := Prod.mk.inj e3
    obtain ⟨u, hu, _⟩ := hk _ (tabGet_mem hy)
    exact ⟨z, _, rfl, rfl, hu, P μ1 H1 _ x1 R1 (.bl _)⟩
  | _ => cases e2
theorem e_tabIn (h : ∃ a, X.mg x = some (.ref a) ∧ KTab X.K X.w a kvs) (ha : PE X a (lE X.w X.K ma)) (hg : Gl X x := by rfl) (hd : (x == ("__debug__" : Str)) = false := by decide) (hm : behindInMarks .In (.Name x p) = false := by first | exact nomark _ | with_unfolding_all rfl) :
    PE X (.Compare a [.In] [.Name x p] pos) (lE X.w X.K (m1 (tabIn kvs true) ma)) := by
  obtain ⟨t, ht, ⟨es, n, kd⟩, hk⟩ := h
  refine pe_imp (pe_cmpR (op_in_kd kd) ha (pe_glob (v := .ref t) hg ht rfl hd) hm) fun σ H Q h => ?_
  obtain ⟨μ, S, ρ, d, S', R, E, e, P⟩ := h
  obtain ⟨d1, S1, e1, e2⟩ := bnd_some e
  refine ⟨μ, S, ρ, d1, S1, R, E, e1, fun μ1 H1 v x1 R1 r1 => ?_⟩
  cases r1 with
  | str z =>
    obtain ⟨y, hy, e3⟩ := Option.map_eq_some_iff.mp (show (tabGet kvs z).map _ = some _ from e2)
    obtain ⟨rfl, rfl⟩ := Prod.mk.inj e3
    obtain ⟨u, hu, _⟩ := hk _ (tabGet_mem hy)
    exact ⟨z, _, rfl, rfl, hu, P μ1 H1 _ x1 R1 (.bl _)⟩
  | _ => cases e2
theorem t_tabNin (h : ∃ a, X.mg x = some (.ref a) ∧ KTab X.K X.w a kvs) (ha : PE X a (lE X.w X.K ma)) (hg : Gl X x := by rfl) (hd : (x == ("__debug__" : Str)) = false := by decide) (hm : behindInMarks .NotIn (.Name x p) = false := by first | exact nomark _ | with_unfolding_all rfl) :
    PT X (.Compare a [.NotIn] [.Name x p] pos) (lT X.w X.K (tV (m1 (tabIn kvs false) ma))) := by
  obtain ⟨t, ht, ⟨es, n, kd⟩, hk⟩ := h
  refine pt_imp (pt_cmpR (op_notIn_kd kd) ha (pe_glob (v := .ref t) hg ht rfl hd) hm) fun σ H Q h => ?_
  obtain ⟨μ, S, ρ, d, S', R, E, e, P⟩ := lT_v h
  obtain ⟨d1, S1, e1, e2⟩ := bnd_some e
  refine ⟨μ, S, ρ, d1, S1, R, E, e1, fun μ1 H1 v x1 R1 r1 => ?_⟩
  cases r1 with
  | str z =>
    obtain ⟨y, hy, e3⟩ := Option.map_eq_some_iff.mp (show (tabGet kvs z).map _ = some _ from e2)
    obtain ⟨rfl, rfl⟩ := Prod.mk.inj e3
    obtain ⟨u, hu, _⟩ := hk _ (tabGet_mem hy)
    exact ⟨z, _, rfl, rfl, hu, P μ1 H1 _ x1 R1 (.bl _)⟩
  | _ => cases e2
theorem t_tabIn (h : ∃ a, X.mg x = some (.ref a) ∧ KTab X.K X.w a kvs) (ha : PE X a (lE X.w X.K ma)) (hg : Gl X x := by rfl) (hd : (x == ("__debug__" : Str)) = false := by decide) (hm : behindInMarks .In (.Name x p) = false := by first | exact nomark _ | with_unfolding_all rfl) :
    PT X (.Compare a [.In] [.Name x p] pos) (lT X.w X.K (tV (m1 (tabIn kvs true) ma))) := by
  obtain ⟨t, ht, ⟨es, n, kd⟩, hk⟩ := h
  refine pt_imp (pt_cmpR (op_in_kd kd) ha (pe_glob (v := .ref t) hg ht rfl hd) hm) fun σ H Q h => ?_
  obtain ⟨μ, S, ρ, d, S', R, E, e, P⟩ := lT_v h
  obtain ⟨d1, S1, e1, e2⟩ := bnd_some e
  refine ⟨μ, S, ρ, d1, S1, R, E, e1, fun μ1 H1 v x1 R1 r1 => ?_⟩
  cases r1 with
  | str z =>
    obtain ⟨y, hy, e3⟩ := Option.map_eq_some_iff.mp (show (tabGet kvs z).map _ = some _ from e2)
    obtain ⟨rfl, rfl⟩ := Prod.mk.inj e3
    obtain ⟨u, hu, _⟩ := hk _ (tabGet_mem hy)
    exact ⟨z, _, rfl, rfl, hu, P μ1 H1 _ x1 R1 (.bl _)⟩
  | _ => cases e2
theorem e_tabIx (h : ∃ a, X.mg x = some (.ref a) ∧ KTab X.K X.w a kvs) (ha : PE X a (lE X.w X.K ma)) (hs : PlainIx a := by intro _ _; rfl) (hg : Gl X x := by rfl) (hd : (x == ("__debug__" : Str)) = false := by decide) :
    PE X (.Subscript (.Name x p) a pos) (lE X.w X.K (m1 (tabIx kvs) ma)) := by
  obtain ⟨t, ht, ⟨es, n, kd⟩, hk⟩ := h
  refine pe_imp (pe_ix (ix_kdict (X := X)) (pe_glob (v := .ref t) hg ht rfl hd) ha hs) fun σ H Q h => ?_
  obtain ⟨μ, S, ρ, d, S', R, E, e, P⟩ := h
  obtain ⟨d1, S1, e1, e2⟩ := bnd_some e
  refine ⟨μ, S, ρ, d1, S1, R, E, e1, fun μ1 H1 v x1 R1 r1 => ?_⟩
  cases r1 with
  | str z =>
    obtain ⟨y, hy, e3⟩ := Option.map_eq_some_iff.mp (show (tabGet kvs z).map _ = some _ from e2)
    obtain ⟨rfl, rfl⟩ := Prod.mk.inj e3
    obtain ⟨u, hu, v0, rv, rr⟩ := hk _ (tabGet_mem hy)
    exact ⟨t, z, v0, rfl, rfl, ⟨es, n, u, kd.at_, kd.lit, hu, rv⟩, P μ1 H1 _ x1 R1 (rr μ1 H1)⟩
  | _ => cases e2
end
/-! ### the end of a law whose head tells of constants is VM16's -/
section
variable {S : Store} {Q : D → Store → Prop} {kvs : List (Str × D)} {z : Str} {d : D} {b : Bool}
theorem ok_tabIn (h : tabGet kvs z = some d) : Ok (tabIn kvs b (.str z)) S Q ↔ Q (.bl b) S := ok_iff (by show (tabGet kvs z).map _ = _; rw [h]; rfl)
theorem ok_tabIx (h : tabGet kvs z = some d) : Ok (tabIx kvs (.str z)) S Q ↔ Q d S := ok_iff (by show (tabGet kvs z).map _ = _; rw [h]; rfl)
end
end VM

/-! VM32: dict(xs) of a list of pairs; list(d.items()); min of two -/
namespace VM
open PySem PySem.Spec PyProof.Rows L2
def pairOf : D → Option (NestedKey × D)
  | .tup [k, v] => (D.key k).map fun k => (k, v)
  | .pr [k, v] => (D.key k).map fun k => (k, v)
  | _ => none
def pairsOf : List D → Option KV'
  | [] => some []
  | d :: ds => match pairOf d, pairsOf ds with
    | some p, some r => some (p :: r)
    | _, _ => none
def dputs (acc kvs : KV') : KV' := kvs.foldl (fun acc kv => dput acc kv.1 kv.2) acc
def alike (kvs : KV') : Bool := ((kvs.all fun kv => leafK kv.1) || (kvs.all fun kv => !leafK kv.1)) && kvs.all fun kv => decide (kv.1.depth ≤ 8)
def fDict : List D → M D
  | [.lst l] => fun S => match S[l]? with
    | some (.lst ds) => match pairsOf ds with
      | some kvs => if alike kvs = true ∧ ds.length ≤ lim then some (.dct S.length, S ++ [.dct (dputs [] kvs)]) else none
      | none => none
    | _ => none
  | _ => fail
/-! ### the items are pairs -/
abbrev PKV (K : PySem.W.Frag) (μ : List Addr) (H : Hp) (p : Value × Value) (kv : NestedKey × D) : Prop := (∃ v, RelV v p.1 ∧ RV K μ H v (keyD kv.1)) ∧ ∃ v, RelV v p.2 ∧ RV K μ H v kv.2
section
variable {X : Cx} {pins : List (Addr × Obj)} {σ : L2.St} {H : Hp} {s : Shared} {μ : List Addr}
theorem pair_at (I : Inv X pins σ H s) {d : D} {v : V} {u : Value} {kv : NestedKey × D} (ru : RelV v u) (r : RV X.K μ H v d) (h : pairOf d = some kv) : ∃ a p, u = .ref a ∧ PairAt s.heap a p.1 p.2 ∧ PKV X.K μ H p kv := by
  have two : ∀ {a : Addr} {vs : List V} {k w : D}, SqT X.K H a vs → RVs X.K μ H vs [k, w] → (D.key k).map (fun k => (k, w)) = some kv → ∃ p : Value × Value, PairAt s.heap a p.1 p.2 ∧ PKV X.K μ H p kv := by
    intro a vs k w hq rs e
    obtain ⟨nk, hk, rfl⟩ := Option.map_eq_some_iff.mp e
    obtain ⟨its, rv, ht, _⟩ := I.tuple hq
    cases rs with
    | cons r1 rs =>
      cases rs with
      | cons r2 rs =>
        cases rs
        obtain ⟨u1, u2, rfl, h1, h2⟩ := Vals.two rv
        exact ⟨(u1, u2), .inl ht, ⟨_, h1, rv_key r1 hk⟩, _, h2, r2⟩
  match d, h with
  | .tup [k, w], h =>
    cases r with
    | tup hq rs =>
      cases ru
      obtain ⟨p, h1, h2⟩ := two hq.sq rs h
      exact ⟨_, p, rfl, h1, h2⟩
  | .pr [k, w], h =>
    cases r with
    | pr hq rs =>
      cases ru
      obtain ⟨p, h1, h2⟩ := two hq rs h
      exact ⟨_, p, rfl, h1, h2⟩
theorem prItems (I : Inv X pins σ H s) : ∀ {ds : List D} {vs : List V} {us : List Value} {kvs : KV'}, Vals vs us → RVs X.K μ H vs ds → pairsOf ds = some kvs →
    ∃ (as : List Addr) (ps : List (Value × Value)), us = as.map .ref ∧ as.length = ps.length ∧ (∀ (j : Nat) (k v : Value), ps[j]? = some (k, v) → ∃ a, as[j]? = some a ∧ PairAt s.heap a k v) ∧ Paired (PKV X.K μ H) ps kvs
  | [], vs, us, kvs, rv, rs, h => by
    cases rs
    cases rv
    obtain rfl := Option.some.inj h
    exact ⟨[], [], rfl, rfl, (fun j k v e => by simp at e), .nil⟩
  | d :: ds, vs, us, kvs, rv, rs, h => by
    cases rs with
    | cons r1 rs =>
      cases rv with
      | cons h1 rv =>
        rw [pairsOf] at h
        split at h
        · rename_i p r e1 e2
          obtain rfl := Option.some.inj h
          obtain ⟨a, q, rfl, b1, b2⟩ := pair_at I h1 r1 e1
          obtain ⟨as, ps, rfl, c1, c2, c3⟩ := prItems I rv rs e2
          refine ⟨a :: as, q :: ps, rfl, by rw [List.length_cons, List.length_cons, c1], fun j k v e => ?_, .cons b2 c3⟩
          cases j with
          | zero =>
            obtain rfl := Option.some.inj e
            exact ⟨a, rfl, b1⟩
          | succ j => exact c2 j k v (by simpa using e)
        · cases h
theorem pkv_leaf {ps : List (Value × Value)} {kvs : KV'} (h : Paired (PKV X.K μ H) ps kvs) (hl : ∀ kv ∈ kvs, leafK kv.1 = true) :
    ∃ lk : List (Leaf × Value), lk.length = ps.length ∧ (∀ (i : Nat) (key v : Value), ps[i]? = some (key, v) → ∃ k, lk[i]? = some (k, v) ∧ (plainK X.prog X.w).is k key = true) ∧ Paired (LP X.K μ H) lk kvs := by
  induction h with
  | nil => exact ⟨[], rfl, (fun i key v e => by simp at e), .nil⟩
  | @cons p kv ps' r h1 _ ih =>
    obtain ⟨lk, a1, a2, a3⟩ := ih fun q hq => hl q (List.mem_cons_of_mem _ hq)
    obtain ⟨⟨v, hv, rv⟩, u, hu, ru⟩ := h1
    obtain ⟨l, el⟩ := leafOf_some (hl kv List.mem_cons_self)
    have ek := leafOf_key el
    refine ⟨(l, p.2) :: lk, by rw [List.length_cons, List.length_cons, a1], fun i key v' e => ?_, .cons ⟨ek, u, hu, ru⟩ a3⟩
    cases i with
    | zero =>
      obtain rfl := Option.some.inj e
      exact ⟨l, rfl, leaf_is (μ := μ) (H := H) (by rw [ek]; exact rv) hv⟩
    | succ i => exact a2 i key v' (by simpa using e)
theorem pkv_tup (I : Inv X pins σ H s) {ps : List (Value × Value)} {kvs : KV'} (h : Paired (PKV X.K μ H) ps kvs) (hl : ∀ kv ∈ kvs, leafK kv.1 = false) (hd : ∀ kv ∈ kvs, kv.1.depth ≤ 8) :
    ∃ xs : List (NestedKey × Addr × Value), xs.length = ps.length ∧ (∀ (i : Nat) (key v : Value), ps[i]? = some (key, v) → ∃ (k : NestedKey) (b : Addr), xs[i]? = some (k, b, v) ∧ key = .ref b) ∧ (∀ x ∈ xs, RV X.K μ H (.ref x.2.1) (keyD x.1) ∧ x.1.depth ≤ 8) ∧ Paired (TPr X.K μ H) xs kvs := by
  induction h with
  | nil => exact ⟨[], rfl, (fun i key v e => by simp at e), (fun x hx => by cases hx), .nil⟩
  | @cons p kv ps' r h1 _ ih =>
    obtain ⟨xs, a1, a2, a3, a4⟩ := ih (fun q hq => hl q (List.mem_cons_of_mem _ hq)) fun q hq => hd q (List.mem_cons_of_mem _ hq)
    obtain ⟨⟨v, hv, rv⟩, u, hu, ru⟩ := h1
    obtain ⟨b, rfl⟩ := rv_ref (hl kv List.mem_cons_self) rv
    have ek : p.1 = .ref b := hv
    refine ⟨(kv.1, b, p.2) :: xs, by rw [List.length_cons, List.length_cons, a1], fun i key v' e => ?_, fun x hx => ?_, .cons ⟨rfl, rv, u, hu, ru⟩ a4⟩
    · cases i with
      | zero =>
        obtain rfl := Option.some.inj e
        exact ⟨kv.1, b, rfl, ek⟩
      | succ i => exact a2 i key v' (by simpa using e)
    · rcases List.mem_cons.mp hx with rfl | hx
      · exact ⟨rv, hd kv List.mem_cons_self⟩
      · exact a3 x hx
theorem puts_leaf : ∀ {lk : List (Leaf × Value)} {kvs : KV'} {la : List (Leaf × Value)} {ka : KV'}, Paired (LP X.K μ H) la ka → Paired (LP X.K μ H) lk kvs → Paired (LP X.K μ H) (merged la lk) (dputs ka kvs)
  | [], kvs, la, ka, h, p => by
    cases p
    exact h
  | x :: lk, kvs, la, ka, h, p => by
    cases p with
    | @cons _ kv _ _ h1 p =>
      obtain ⟨e, v, hv, rv⟩ := h1
      have q := put_leaf h x.1 hv rv
      rw [e] at q
      exact puts_leaf (la := PySem.stored la x.1 x.2) (ka := dput ka kv.1 kv.2) q p
theorem puts_tup : ∀ {xs : List (NestedKey × Addr × Value)} {kvs : KV'} {xa : List (NestedKey × Addr × Value)} {ka : KV'}, Paired (TPr X.K μ H) xa ka → Paired (TPr X.K μ H) xs kvs → Paired (TPr X.K μ H) (storedAllH xa xs) (dputs ka kvs)
  | [], kvs, xa, ka, h, p => by
    cases p
    exact h
  | x :: xs, kvs, xa, ka, h, p => by
    cases p with
    | @cons _ kv _ _ h1 p =>
      obtain ⟨e, rk, v, hv, rv⟩ := h1
      have q := put_tup h kv.1 rk hv rv
      rw [← e] at q
      have q2 : Paired (TPr X.K μ H) (storedH xa x.1 x.2.1 x.2.2) (dput ka kv.1 kv.2) := by
        rw [← e]
        exact q
      exact puts_tup (xa := storedH xa x.1 x.2.1 x.2.2) (ka := dput ka kv.1 kv.2) q2 p
end
theorem dputs_mem : ∀ {kvs ka : KV'} {q : NestedKey × D}, q ∈ dputs ka kvs → (∃ d, (q.1, d) ∈ ka) ∨ ∃ d, (q.1, d) ∈ kvs
  | [], ka, q, h => .inl ⟨q.2, h⟩
  | x :: kvs, ka, q, h => by
    rcases dputs_mem (kvs := kvs) (ka := dput ka x.1 x.2) h with ⟨d, hd⟩ | ⟨d, hd⟩
    · rcases dput_mem hd with e | ⟨d', hd'⟩
      · exact .inr ⟨x.2, by rw [show q.1 = x.1 from e]; exact List.mem_cons_self⟩
      · exact .inl ⟨d', hd'⟩
    · exact .inr ⟨d, List.mem_cons_of_mem _ hd⟩
theorem dputs_nodup : ∀ {kvs ka : KV'}, (ka.map (·.1)).Nodup → ((dputs ka kvs).map (·.1)).Nodup
  | [], ka, h => h
  | x :: kvs, ka, h => dputs_nodup (kvs := kvs) (dput_nodup h)
theorem dputs_length : ∀ {kvs ka : KV'}, (dputs ka kvs).length ≤ ka.length + kvs.length
  | [], ka => Nat.le_refl _
  | x :: kvs, ka => by
    have a := dputs_length (kvs := kvs) (ka := dput ka x.1 x.2)
    have b := dput_length ka x.1 x.2
    show (dputs (dput ka x.1 x.2) kvs).length ≤ _
    rw [List.length_cons]
    omega
theorem pairsOf_length : ∀ {ds : List D} {kvs : KV'}, pairsOf ds = some kvs → kvs.length = ds.length
  | [], kvs, h => by obtain rfl := Option.some.inj h; rfl
  | d :: ds, kvs, h => by
    rw [pairsOf] at h
    split at h
    · rename_i p r e1 e2
      obtain rfl := Option.some.inj h
      rw [List.length_cons, List.length_cons, pairsOf_length e2]
    · cases h
section
variable {X : Cx}
theorem c_dict (G : Good X) : CallR X (.type "dict") (lRs X.w X.K fDict) := by
  intro pins s σ H xs us Q I r h
  obtain ⟨μ, S, ds0, d, S', R, rs, e0, P⟩ := h
  obtain ⟨l, ds, kvs, rfl, hS, hk, hal, hz, rfl, rfl⟩ : ∃ l ds kvs, ds0 = [.lst l] ∧ S[l]? = some (.lst ds) ∧ pairsOf ds = some kvs ∧ alike kvs = true ∧ ds.length ≤ lim ∧ d = .dct S.length ∧ S' = S ++ [.dct (dputs [] kvs)] := by
    match ds0, e0 with
    | [.lst l], e =>
      have e' : (match S[l]? with
        | some (.lst ds) => match pairsOf ds with
          | some kvs => if alike kvs = true ∧ ds.length ≤ lim then some (D.dct S.length, S ++ [.dct (dputs [] kvs)]) else none
          | none => none
        | _ => none) = some (d, S') := e
      split at e'
      · rename_i ds hS
        split at e'
        · rename_i kvs hk
          split at e'
          · rename_i hc
            obtain ⟨rfl, rfl⟩ := Prod.mk.inj (Option.some.inj e')
            exact ⟨l, ds, kvs, rfl, hS, hk, hc.1, hc.2, rfl, rfl⟩
          · cases e'
        · cases e'
      · cases e'
  obtain ⟨v, rfl, rv⟩ := rvs1 rs
  obtain ⟨a, vs, rfl, q2, q3, q4⟩ := rv_list R rv hS
  obtain ⟨u, rfl, hv⟩ := Vals.one r
  cases hv
  obtain ⟨hz0, its, n, rit, hget⟩ := I.hok a _ q3
  obtain ⟨as, ps, rfl, c1, c2, c3⟩ := prItems I rit q4 hk
  have hpl : ps.length = kvs.length := c3.length
  have hkl := pairsOf_length hk
  have hll := lim_le
  have hOK : PlainSeq "list" s.heap a (as.map Value.ref).toArray ∧ PairItems s.heap (as.map Value.ref).toArray (fun j => as.getD j 0) ps := by
    refine ⟨⟨_, n, hget, rfl, rfl, rfl⟩, by rw [List.size_toArray, List.length_map, c1], fun j k w e => ?_⟩
    obtain ⟨b, hb, hp⟩ := c2 j k w e
    have eb : as.getD j 0 = b := by rw [List.getD_eq_getElem?_getD, hb]; rfl
    refine ⟨by show _ = some (Value.ref (as.getD j 0)); rw [eb]; simp [hb], by show PairAt s.heap (as.getD j 0) k w; rw [eb]; exact hp⟩
  have hn : H s.heap.objs.size = none := I.hok.fresh (Nat.le_refl _)
  have lo : (s.heap.objs.size == sysModules) = false := beq_eq_false_iff_ne.mpr (Ne.symm (Nat.ne_of_lt I.big))
  have hal' : ((∀ kv ∈ kvs, leafK kv.1 = true) ∨ ∀ kv ∈ kvs, leafK kv.1 = false) ∧ ∀ kv ∈ kvs, kv.1.depth ≤ 8 := by
    unfold alike at hal
    rw [Bool.and_eq_true, Bool.or_eq_true, List.all_eq_true, List.all_eq_true, List.all_eq_true] at hal
    obtain ⟨h1, h2⟩ := hal
    exact ⟨h1.imp id fun h kv hkv => by have := h kv hkv; simpa using this, fun kv hkv => of_decide_eq_true (h2 kv hkv)⟩
  have hlen : (dputs [] kvs).length ≤ sizeLine := by
    have := dputs_length (kvs := kvs) (ka := [])
    rw [List.length_nil] at this
    omega
  have fin : ∀ (h' : Heap) (tk : Nat) (ents : List DictEntry), dφ s.heap.objs.size ents h' → Paired (EntOk X.w X.K μ H) ents (dputs [] kvs) → (∀ b o, b ∉ ([] : List Addr) → s.heap.get? b = some o → h'.get? b = some o) → EP X pins σ Q (.ref s.heap.objs.size) { s with heap := h', toks := tk } := by
    intro h' tk ents hφ hp hkp
    refine ⟨.ref s.heap.objs.size, upd H s.heap.objs.size (.ext (dφ s.heap.objs.size ents)), I.laid (fun b o e => hkp b o (by simp) e) (Nat.le_refl _) (dφ_obj hφ), rfl, ?_⟩
    refine post_alloc R hn (ro_dict (μ := μ) (H := H) lo hlen (dputs_nodup (by simp)) ?_ ?_ hp upd_same (ext_alloc hn).toExt0) (.dct (pl_last R)) P
    · refine hal'.1.imp (fun h q hq => ?_) fun h q hq => ?_ <;>
      · rcases dputs_mem hq with ⟨d, hd⟩ | ⟨d, hd⟩
        · cases hd
        · exact h (q.1, d) hd
    · intro q hq
      rcases dputs_mem hq with ⟨d, hd⟩ | ⟨d, hd⟩
      · cases hd
      · exact hal'.2 (q.1, d) hd
  rcases hal'.1 with hl | hl
  · obtain ⟨lk, a1, a2, a3⟩ := pkv_leaf (X := X) c3 hl
    refine call_dict_pairs (knd := plainK X.prog X.w) (kvs := lk) (PairArg.list a _ _ ps) (I.ok.hd G.calm) hOK ⟨a1, a2⟩ (by omega) fun h' tk hd hkp => ?_
    obtain ⟨ents, e1, e2⟩ := dback_leaf hd (puts_leaf (X := X) .nil a3)
    exact fin h' tk ents e1 e2 hkp
  · obtain ⟨xs, a1, a2, a3, a4⟩ := pkv_tup I c3 hl hal'.2
    refine call_dict_pairsH (knd := nestedKind X.prog X.w) (ps := xs) (PairArg.list a _ _ ps) (I.ok.hd G.calm) (by show X.A.in1.in1.units + 8 < cLine; rw [Around.in1_units, Around.in1_units]; have := room100 G; omega) hOK ⟨a1, a2⟩ (fun h' hkp x hx => ?_) (by omega) fun h' tk hd hkp => ?_
    · have i0 : (nestedKind X.prog X.w).is s.heap x.1 x.2.1 := ⟨nested_is I _ _ _ (a3 x hx).1 rfl, (a3 x hx).2⟩
      exact (nestedKind_stays (prog := X.prog) (w := X.w)).all h' (fun b o _ e => hkp b o (Nat.ne_of_lt (Heap.lt_size e)) (by simp) e) _ _ i0
    · obtain ⟨ents, e1, e2⟩ := dback_tup hd (puts_tup (X := X) .nil a4)
      exact fin h' tk ents e1 e2 hkp
end
end VM

/-! VM33: list(d.items()); min, max of two; many new objects at once -/
namespace VM
open PySem PySem.Spec PyProof.Rows L2
/-! ### many objects of a heap that has grown -/
structure Lays (X : Cx) (H : Hp) (s : Shared) (h' : Heap) (H1 : Hp) : Prop where
  un : Un X.fs [] H H1 s.heap h'
  ok : HOk X.prog X.w H1 h'
theorem Lays.start {X : Cx} {pins : List (Addr × Obj)} {σ : L2.St} {H : Hp} {s : Shared} {h' : Heap} (I : Inv X pins σ H s) (k : ∀ b u, s.heap.get? b = some u → h'.get? b = some u) : Lays X H s h' H := ⟨Un.kept k, I.hok.kept k⟩
theorem Lays.step {X : Cx} {H : Hp} {s : Shared} {h' : Heap} {H1 : Hp} {a : Addr} {o : HO} (L : Lays X H s h' H1) (ha : s.heap.objs.size ≤ a) (hn : H1 a = none) (new : ObjOk X.prog X.w (upd H1 a o) h' a o) : Lays X H s h' (upd H1 a o) where
  un := {
    keep := L.un.keep
    slot := L.un.slot
    free := fun b u q n x => by rw [upd_ne (Nat.ne_of_lt (Nat.lt_of_lt_of_le (Heap.lt_size q) ha))]; exact L.un.free b u q n x
    there := L.un.there
    tups := fun b xs q => by rw [upd_ne (ne_of_none (L.un.tups b xs q) hn)]; exact L.un.tups b xs q
    frzs := fun b u xs q => by rw [upd_ne (ne_of_none (L.un.frzs b u xs q) hn)]; exact L.un.frzs b u xs q
    tbls := fun b ps q => by
      obtain ⟨m, e⟩ := L.un.tbls b ps q
      exact ⟨m, by rw [upd_ne (ne_of_none e hn)]; exact e⟩ }
  ok := fun b u e => by
    by_cases hb : b = a
    · subst hb; rw [upd_same] at e; cases e; exact new
    · rw [upd_ne hb] at e
      exact (L.ok b u e).stay (fun c v _ q => q) (fun c q => by rw [upd_ne (ne_of_none q hn)]; exact q) fun c xs q => by rw [upd_ne (ne_of_none q hn)]; exact q
theorem Lays.inv {X : Cx} {pins : List (Addr × Obj)} {σ : L2.St} {H : Hp} {s : Shared} {h' : Heap} {H1 : Hp} (L : Lays X H s h' H1) (I : Inv X pins σ H s) (t : Nat) : Inv X pins σ H1 { s with heap := h', toks := t } := I.un L.un L.ok
/-! ### list(d.items()) -/
def itD (kvs : KV') : List D := kvs.map fun kv => .tup [keyD kv.1, kv.2]
def itemsM (x : D) : M D := fun S => match dictOf S x with
  | some kvs => some (.lst S.length, S ++ [.lst (itD kvs)])
  | none => none
/-- the pairs of a dict, laid one by one -/
theorem lay_pairs {X : Cx} {H : Hp} {s : Shared} {h' : Heap} {μ : List Addr} {S : Store} {lo : Addr} (hlo : s.heap.objs.size ≤ lo) : ∀ {ents : List DictEntry} {kvs : KV'} {as : List Addr} {H1 : Hp}, Lays X H s h' H1 → Rel X.w X.K μ H1 S → Paired (EntOk X.w X.K μ H1) ents kvs →
    as.length = ents.length → as.Pairwise (· < ·) → (∀ a ∈ as, lo < a) → (∀ a, lo ≤ a → a ∈ as ∨ a = lo → H1 a = none) → (∀ (j : Nat) (a : Addr), as[j]? = some a → ∃ e, ents[j]? = some e ∧ h'.get? a = some { cls := .type "tuple", data := .seq #[e.key, e.val] }) →
    ∃ H2, Lays X H s h' H2 ∧ Rel X.w X.K μ H2 S ∧ Ext μ H1 μ H2 ∧ H2 lo = none ∧ RVs X.K μ H2 (as.map V.ref) (itD kvs)
  | [], kvs, as, H1, L, R, p, hl, pw, ab, fr, at_ => by
    cases p
    obtain rfl : as = [] := List.eq_nil_of_length_eq_zero hl
    exact ⟨H1, L, R, Ext.refl, fr lo (Nat.le_refl _) (.inr rfl), .nil⟩
  | e :: ents, kvs, as, H1, L, R, p, hl, pw, ab, fr, at_ => by
    cases as with
    | nil => cases hl
    | cons a as =>
      cases p with
      | @cons _ kv _ kvs h1 p =>
        obtain ⟨e', q1, q2⟩ := at_ 0 a rfl
        obtain rfl := Option.some.inj q1
        obtain ⟨hh, ⟨vk, hk, rk⟩, vv, hv, rv⟩ := h1
        have ha := ab a List.mem_cons_self
        have hn := fr a (Nat.le_of_lt ha) (.inl List.mem_cons_self)
        have hz : ([vk, vv] : List V).length ≤ sizeLine := by rw [sizeLine_eq]; show 2 ≤ 16777216; omega
        have L2 : Lays X H s h' (upd H1 a (.frz { cls := .type "tuple", data := .seq #[e.key, e.val] } (.tup [vk, vv]))) :=
          L.step (Nat.le_trans hlo (Nat.le_of_lt ha)) hn ⟨q2, hz, [e.key, e.val], .cons hk (.cons hv .nil), ⟨_, q2, rfl, _, rfl⟩⟩
        have x1 := ext_upd (μ := μ) (o := HO.frz { cls := .type "tuple", data := .seq #[e.key, e.val] } (.tup [vk, vv])) hn
        obtain ⟨pw1, pw2⟩ := List.pairwise_cons.mp pw
        have hne : ∀ b, b ∈ as ∨ b = lo → b ≠ a := fun b hb => by
          rcases hb with hb | rfl
          · exact Nat.ne_of_gt (pw1 b hb)
          · exact Nat.ne_of_lt ha
        obtain ⟨H2, b1, b2, b3, b4, b5⟩ := lay_pairs hlo L2 (R.new hn) (Paired.mapP p fun _ _ q => q.mono0 x1.toExt0) (by simpa using hl) pw2 (fun b hb => ab b (List.mem_cons_of_mem _ hb))
          (fun b hb hm => by
            rw [upd_ne (hne b hm)]
            exact fr b hb (hm.imp (List.mem_cons_of_mem _) id))
          (fun j b hj => at_ (j + 1) b (by simpa using hj))
        have rt : RV X.K μ (upd H1 a (.frz { cls := .type "tuple", data := .seq #[e.key, e.val] } (.tup [vk, vv]))) (.ref a) (.tup [keyD kv.1, kv.2]) := .tup (SqN.new rfl) (.cons (rk.mono0 x1.toExt0) (.cons (rv.mono0 x1.toExt0) .nil))
        exact ⟨H2, b1, b2, x1.trans b3, b4, .cons (rt.mono b3) b5⟩
section
variable {X : Cx} {o : Expr} {mo : EM} {p apos cpos pos : Pos}
theorem e_items (G : Good X) (ho : PE X o (lE X.w X.K mo)) (hml : X.mg "list" = none) (hbase : attributeBase o "items" X.env (eval o X.env) = eval o X.env := by rfl) (hline : (apos.endLine == cpos.line) = true := by rfl) (hg : Gl X "list" := by rfl)
    (na : starEach [(.Call (.Attribute o "items" apos) [] [] cpos : Expr)] X.env = (false, eval (.Call (.Attribute o "items" apos) [] [] cpos) X.env) :: starEach [] X.env := by rfl) :
    PE X (.Call (.Name "list" p) [.Call (.Attribute o "items" apos) [] [] cpos] [] pos) (lE X.w X.K (m1 itemsM mo)) := by
  refine ⟨fun pins s σ H Q I h => ?_⟩
  obtain ⟨μ, S, ρ, d, S', R, E, e, P⟩ := h
  obtain ⟨x, S1, e1, e2⟩ := bnd_some e
  obtain ⟨kvs, hk, hd, hS'⟩ : ∃ kvs, dictOf S1 x = some kvs ∧ d = .lst S1.length ∧ S' = S1 ++ [.lst (itD kvs)] := by
    unfold itemsM at e2
    split at e2
    · rename_i kvs hk
      obtain ⟨rfl, rfl⟩ := Prod.mk.inj (Option.some.inj e2)
      exact ⟨kvs, hk, rfl, rfl⟩
    · cases e2
  subst hd hS'
  -- the view
  have view : wpAny (model X.prog X.w) X.A (eval (.Call (.Attribute o "items" apos) [] [] cpos) X.env) (fun u s1 => ∃ r a H1 μ1 es ep, u = .ref r ∧ s1.heap.IsItemsView r a ∧ Inv X pins σ H1 s1 ∧ Ext μ H μ1 H1 ∧ Rel X.w X.K μ1 H1 S1 ∧ s1.heap.DictRaw a es ep ∧ es.size ≤ sizeLine ∧ Paired (EntOk X.w X.K μ1 H1) es.toList kvs) X.xe s := by
    refine wpAny_Call_method0_late hbase hline (thn (ho.run pins s σ H (fun v H1 => ∃ μ1, Ext μ H μ1 H1 ∧ Rel X.w X.K μ1 H1 S1 ∧ RV X.K μ1 H1 v x) I ⟨μ, S, ρ, x, S1, R, E, e1, fun μ1 H1 v x1 R1 r1 => ⟨μ1, x1, R1, r1⟩⟩) fun u s1 ⟨v, H1, I1, rv, μ1, x1, R1, r1⟩ => ?_)
    obtain ⟨l, a, rfl, rfl, rfl, hl, t1, t2⟩ := dct_recv I1 rv R1 r1 (by show (dictOf S1 x).isSome = true; rw [hk]; rfl)
    refine ⟨"dict", "dict.items", PySem.F.plainAttrs_dict, PySem.F.slot_dict_items, PySem.F.type_dict_items, t1, t2, Calls.callWith_builtin rfl (PySem.evalArgs_none ?_)⟩
    obtain ⟨l', a', q0, q1, hl2, hS, ro⟩ := rv_dict R1 r1 hk
    cases q1
    obtain ⟨n1, n2, n3, n4, n5, ents, hH, hp⟩ := ro
    have hφ : dφ a ents s1.heap := by
      rcases hH with hH | ⟨od, hH⟩
      · exact (show (dφ a ents) s1.heap ∧ _ from I1.hok a _ hH).1
      · exact (show s1.heap.get? a = some od ∧ (dφ a ents) s1.heap ∧ _ from I1.hok a _ hH).2.1
    obtain ⟨es, ep, hr, he⟩ := dφ_raw hφ
    have hz : es.size ≤ sizeLine := by
      have := hp.length
      rw [← he, Array.length_toList] at this
      omega
    refine call_meetsIn PySem.F.slot_dict_items t1 PySem.F.entry_dict_items (PySem.F.args_dict_items_1 _) (meets_dict_items_raw a n1) ⟨⟨es, ep, hr⟩, ?_⟩
    refine ⟨s1.heap.objs.size, a, H1, μ1, es, ep, rfl, ⟨_, Heap.get?_push_size _ rfl, rfl, rfl⟩, I1.kept (t' := s1.toks) (fun b ob q => Heap.get?_push_of_some _ q), x1, R1, hr.push _, hz, by rw [he]; exact hp⟩
  refine Call_ (ld_blt I hg hml boot_list (PyProof.Rows.callWith_type1 (args_cons (thn view fun u s1 ⟨r, a, H1, μ1, es, ep, eu, hv, I1, x1, R1, hr, hz, hp⟩ => args_nil ?_) na) na))
  subst eu
  refine PySem.W.dil_call (I1.ok.hd G.calm) hv hr hz fun h' tk acc c as hkp hlst hlen hG hacc => ?_
  have hn1 : H1 s1.heap.objs.size = none := I1.hok.fresh (Nat.le_refl _)
  obtain ⟨H2, b1, b2, b3, b4, b5⟩ := lay_pairs (X := X) (s := s1) (h' := h') (S := S1) (Nat.le_refl _) (Lays.start I1 hkp) R1 hp (by rw [hlen, Array.length_toList]) hG.rise hG.above (fun b hb _ => I1.hok.fresh hb) (fun j b hj => by
    obtain ⟨hj', e3⟩ := hG.pairs j b hj
    exact ⟨es[j], by rw [Array.getElem?_toList]; exact Array.getElem?_eq_getElem hj', e3⟩)
  have vals : Vals (as.map V.ref) (as.map Value.ref) := by
    clear hG hacc hlen b5
    induction as with
    | nil => exact .nil
    | cons b as ih => exact .cons rfl ih
  have hzs : (as.map V.ref).length ≤ sizeLine := by rw [List.length_map, hlen]; exact hz
  have b6 := b1.step (a := s1.heap.objs.size) (o := .lst (as.map V.ref)) (Nat.le_refl _) b4 ⟨hzs, acc.toList, c, by rw [hacc]; exact vals, by simpa using hlst⟩
  exact ⟨.ref s1.heap.objs.size, _, b6.inv I1 tk, rfl, post_list b2 b4 b5 (P.step (x1.trans b3))⟩
end
end VM

/-! VM34: min of a tuple of whole numbers -/
namespace VM
open PySem PySem.Spec PyProof.Rows L2
def fMinA : List D → M D
  | [.tup ds] => fun S => ((intsOf ds).bind leastI).map fun n => (.int n, S)
  | as => fMin as
theorem readsAll_ints (h : Heap) : ∀ {us : List Value} {ns : List Int}, Vals (ns.map V.int) us → ReadsAll h us (ns.map PyData.int) []
  | [], [], _ => .nil
  | [], _ :: _, h => by cases h
  | _ :: _, [], h => by cases h
  | u :: us, n :: ns, hv => by
    cases hv with
    | cons h1 h2 =>
      obtain ⟨t, rfl⟩ := h1
      exact .cons (as := []) (bs := []) (.int n t) (readsAll_ints h h2)
theorem depth_ints : ∀ ns : List Int, PyData.depthAll (ns.map PyData.int) ≤ 1
  | [] => by simp [PyData.depthAll]
  | n :: ns => by
    have := depth_ints ns
    simp [PyData.depthAll, PyData.depth]
    omega
theorem c_minA {X : Cx} (G : Good X) : CallR X (.builtin "min") (lRs X.w X.K fMinA) := by
  intro pins s σ H xs us Q I r h
  obtain ⟨μ, S, ds, d, S', R, rs, e, P⟩ := h
  unfold fMinA at e
  split at e
  · rename_i es
    obtain ⟨v, rfl, rv⟩ := rvs1 rs
    obtain ⟨m, e1, e2⟩ := Option.map_eq_some_iff.mp e
    obtain ⟨ns, e3, e4⟩ := Option.bind_eq_some_iff.mp e1
    obtain ⟨rfl, rfl⟩ := Prod.mk.inj e2
    cases rv with
    | @tup a vs _ hq rs2 =>
      obtain ⟨its, rv2, ht, hz⟩ := I.tuple hq.sq
      obtain rfl := ints_of rs2 e3
      obtain ⟨u, rfl, hv⟩ := Vals.one r
      cases hv
      cases ns with
      | nil => cases e4
      | cons n ns =>
        obtain rfl := Option.some.inj e4
        have hr := readsAll_ints s.heap rv2
        have hd := depth_ints (n :: ns)
        refine PySem.W.min_tuple_data (x := .int n) (xs := ns.map PyData.int) (I.ok.hd G.calm) ht (by simpa using hr) ⟨fun x hx y hy => ?_, fun x hx => ?_⟩ (by have := G.un; rw [List.map_cons] at hd; omega) fun i v h' tk bs _ hrd hk => ?_
        · rw [← List.map_cons] at hx hy
          obtain ⟨p, _, rfl⟩ := List.mem_map.mp hx
          obtain ⟨q, _, rfl⟩ := List.mem_map.mp hy
          rfl
        · rw [← List.map_cons] at hx
          obtain ⟨p, _, rfl⟩ := List.mem_map.mp hx
          intro z
          cases z
        · rw [PySem.W.minD_ints] at hrd
          cases hrd with
          | int _ t => exact ⟨.int _, H, I.kept hk, ⟨t, rfl⟩, post_val R (.int _) P⟩
  · exact c_min G pins s σ H xs us Q I r ⟨μ, S, ds, d, S', R, rs, e, P⟩
end VM

/-! VM35: a display of a dict, by its expressions -/
namespace VM
open PySem PySem.Spec PyProof.Rows L2
structure PPx (X : Cx) (pos : Pos) (keys : List (Option Expr)) (values : List Expr) (mp : PM) : Prop where
  ex : ∃ ps : List (Sem Value × Sem Value), PPs X ps mp ∧ ps.length = keys.length ∧ (evalEachOpt keys X.env).zip ((evalEach values X.env).map fun v => do let x ← v; standAt pos; pure x) = ps.map fun p => (some p.1, p.2)
section
variable {X : Cx} {pos : Pos}
theorem px_nil : PPx X pos [] [] dpNil := ⟨[], pp_nil, rfl, rfl⟩
theorem px_cons {k v : Expr} {keys : List (Option Expr)} {values : List Expr} {mk mv : EM} {mr : PM} (hk : PE X k (lE X.w X.K mk)) (hv : PE X v (lE X.w X.K mv)) (hr : PPx X pos keys values mr) : PPx X pos (some k :: keys) (v :: values) (dpCons mk mv mr) := by
  obtain ⟨ps, h1, h2, h3⟩ := hr
  refine ⟨_, pp_cons (pos := pos) hk hv h1, by rw [List.length_cons, List.length_cons, h2], ?_⟩
  rw [List.map_cons, ← h3]
  rfl
theorem e_dispX (G : Good X) {k : Option Expr} {keys : List (Option Expr)} {values : List Expr} {mp : PM} (hp : PPx X pos (k :: keys) values mp) (hl : (k :: keys).length ≤ 15 := by exact Nat.le_of_ble_eq_true rfl) : PE X (.Dict (k :: keys) values pos) (lE X.w X.K (mDisp mp)) := by
  obtain ⟨ps, h1, h2, h3⟩ := hp
  exact e_disp G h1 h3 (fun e => by rw [e] at h2; cases h2) (by rw [h2]; exact hl)
end
end VM

/-! the program of partsbarred_k70_families_by_distances over the VM layer: printed by gen.py -/
namespace VMP
open PySem PySem.Spec PyProof.Rows L2 VM
def topS (i : Nat) : Stmt := PySem.Challenge.pw_partsbarred_k70_families_by_distances.main.body.getD i (.Pass ⟨0, 0, 0, 0⟩)
abbrev st__law_draw : Stmt := topS 38
abbrev N__law_draw : List Str := ["state", "many", "found"]
abbrev P__law_draw : List Str := ["state", "many"]
theorem sc__law_draw : FnScope N__law_draw P__law_draw (defScope st__law_draw) := ⟨rfl, rfl, rfl, by decide +kernel, rfl, by decide +kernel, by decide +kernel⟩
abbrev st__law_digits : Stmt := topS 42
abbrev N__law_digits : List Str := ["i", "j", "found", "k"]
abbrev P__law_digits : List Str := ["i", "j"]
theorem sc__law_digits : FnScope N__law_digits P__law_digits (defScope st__law_digits) := ⟨rfl, rfl, rfl, by decide +kernel, rfl, by decide +kernel, by decide +kernel⟩
abbrev st__law_round : Stmt := topS 41
abbrev N__law_round : List Str := ["many", "i", "j", "apart"]
abbrev P__law_round : List Str := ["many", "i", "j"]
theorem sc__law_round : FnScope N__law_round P__law_round (defScope st__law_round) := ⟨rfl, rfl, rfl, by decide +kernel, rfl, by decide +kernel, by decide +kernel⟩
abbrev st__law_due : Stmt := topS 43
abbrev N__law_due : List Str := ["word", "own", "i", "j", "n", "wide", "apart"]
abbrev P__law_due : List Str := ["word", "own", "i", "j"]
theorem sc__law_due : FnScope N__law_due P__law_due (defScope st__law_due) := ⟨rfl, rfl, rfl, by decide +kernel, rfl, by decide +kernel, by decide +kernel⟩
abbrev st__law_far : Stmt := topS 40
abbrev N__law_far : List Str := ["rows", "first", "found", "layer", "turn", "more", "own", "one"]
abbrev P__law_far : List Str := ["rows", "first"]
theorem sc__law_far : FnScope N__law_far P__law_far (defScope st__law_far) := ⟨rfl, rfl, rfl, by decide +kernel, rfl, by decide +kernel, by decide +kernel⟩
abbrev st__law_order : Stmt := topS 39
abbrev N__law_order : List Str := ["state", "many", "left", "found", "k"]
abbrev P__law_order : List Str := ["state", "many"]
theorem sc__law_order : FnScope N__law_order P__law_order (defScope st__law_order) := ⟨rfl, rfl, rfl, by decide +kernel, rfl, by decide +kernel, by decide +kernel⟩
abbrev st_edge_in : Stmt := topS 11
abbrev N_edge_in : List Str := ["one", "other"]
abbrev P_edge_in : List Str := ["one", "other"]
theorem sc_edge_in : FnScope N_edge_in P_edge_in (defScope st_edge_in) := ⟨rfl, rfl, rfl, by decide +kernel, rfl, by decide +kernel, by decide +kernel⟩
abbrev st_graph_in : Stmt := topS 12
abbrev N_graph_in : List Str := ["many", "pairs", "one", "other"]
abbrev P_graph_in : List Str := ["many", "pairs"]
theorem sc_graph_in : FnScope N_graph_in P_graph_in (defScope st_graph_in) := ⟨rfl, rfl, rfl, by decide +kernel, rfl, by decide +kernel, by decide +kernel⟩
abbrev st_all_pairs : Stmt := topS 28
abbrev N_all_pairs : List Str := ["many", "other", "one"]
abbrev P_all_pairs : List Str := ["many"]
theorem sc_all_pairs : FnScope N_all_pairs P_all_pairs (defScope st_all_pairs) := ⟨rfl, rfl, rfl, by decide +kernel, rfl, by decide +kernel, by decide +kernel⟩
abbrev st_cube_pairs : Stmt := topS 31
abbrev N_cube_pairs : List Str := ["high", "powers", "at", "own", "power"]
abbrev P_cube_pairs : List Str := ["high"]
theorem sc_cube_pairs : FnScope N_cube_pairs P_cube_pairs (defScope st_cube_pairs) := ⟨rfl, rfl, rfl, by decide +kernel, rfl, by decide +kernel, by decide +kernel⟩
abbrev st_grid_pairs : Stmt := topS 30
abbrev N_grid_pairs : List Str := ["rows", "wide", "along", "row", "at"]
abbrev P_grid_pairs : List Str := ["rows", "wide"]
theorem sc_grid_pairs : FnScope N_grid_pairs P_grid_pairs (defScope st_grid_pairs) := ⟨rfl, rfl, rfl, by decide +kernel, rfl, by decide +kernel, by decide +kernel⟩
abbrev st_ring_pairs : Stmt := topS 26
abbrev N_ring_pairs : List Str := ["first", "many", "at"]
abbrev P_ring_pairs : List Str := ["first", "many"]
theorem sc_ring_pairs : FnScope N_ring_pairs P_ring_pairs (defScope st_ring_pairs) := ⟨rfl, rfl, rfl, by decide +kernel, rfl, by decide +kernel, by decide +kernel⟩
abbrev st_named_pairs : Stmt := topS 33
abbrev N_named_pairs : List Str := ["word", "inner", "at"]
abbrev P_named_pairs : List Str := ["word"]
theorem sc_named_pairs : FnScope N_named_pairs P_named_pairs (defScope st_named_pairs) := ⟨rfl, rfl, rfl, by decide +kernel, rfl, by decide +kernel, by decide +kernel⟩
abbrev st_path_pairs : Stmt := topS 27
abbrev N_path_pairs : List Str := ["many", "at"]
abbrev P_path_pairs : List Str := ["many"]
theorem sc_path_pairs : FnScope N_path_pairs P_path_pairs (defScope st_path_pairs) := ⟨rfl, rfl, rfl, by decide +kernel, rfl, by decide +kernel, by decide +kernel⟩
abbrev st_points_of : Stmt := topS 25
abbrev N_points_of : List Str := ["word", "numbers"]
abbrev P_points_of : List Str := ["word", "numbers"]
theorem sc_points_of : FnScope N_points_of P_points_of (defScope st_points_of) := ⟨rfl, rfl, rfl, by decide +kernel, rfl, by decide +kernel, by decide +kernel⟩
abbrev st_sided_pairs : Stmt := topS 29
abbrev N_sided_pairs : List Str := ["one", "other", "first", "second"]
abbrev P_sided_pairs : List Str := ["one", "other"]
theorem sc_sided_pairs : FnScope N_sided_pairs P_sided_pairs (defScope st_sided_pairs) := ⟨rfl, rfl, rfl, by decide +kernel, rfl, by decide +kernel, by decide +kernel⟩
abbrev st_pairs_of : Stmt := topS 32
abbrev N_pairs_of : List Str := ["word", "numbers", "many", "spokes", "half", "own"]
abbrev P_pairs_of : List Str := ["word", "numbers"]
theorem sc_pairs_of : FnScope N_pairs_of P_pairs_of (defScope st_pairs_of) := ⟨rfl, rfl, rfl, by decide +kernel, rfl, by decide +kernel, by decide +kernel⟩
abbrev st_family_in : Stmt := topS 34
abbrev N_family_in : List Str := ["word", "numbers"]
abbrev P_family_in : List Str := ["word", "numbers"]
theorem sc_family_in : FnScope N_family_in P_family_in (defScope st_family_in) := ⟨rfl, rfl, rfl, by decide +kernel, rfl, by decide +kernel, by decide +kernel⟩
abbrev st_is_integer : Stmt := topS 4
abbrev N_is_integer : List Str := ["value"]
abbrev P_is_integer : List Str := ["value"]
theorem sc_is_integer : FnScope N_is_integer P_is_integer (defScope st_is_integer) := ⟨rfl, rfl, rfl, by decide +kernel, rfl, by decide +kernel, by decide +kernel⟩
abbrev st_family : Stmt := topS 35
abbrev N_family : List Str := ["word", "numbers", "least", "own", "due"]
abbrev P_family : List Str := ["word", "numbers"]
theorem sc_family : FnScope N_family P_family (defScope st_family) := ⟨rfl, rfl, rfl, by decide +kernel, rfl, by decide +kernel, by decide +kernel⟩
abbrev st_are_points : Stmt := topS 10
abbrev N_are_points : List Str := ["value", "many", "own", "one", "other"]
abbrev P_are_points : List Str := ["value", "many"]
theorem sc_are_points : FnScope N_are_points P_are_points (defScope st_are_points) := ⟨rfl, rfl, rfl, by decide +kernel, rfl, by decide +kernel, by decide +kernel⟩
abbrev st_is_edge : Stmt := topS 7
abbrev N_is_edge : List Str := ["value", "many"]
abbrev P_is_edge : List Str := ["value", "many"]
theorem sc_is_edge : FnScope N_is_edge P_is_edge (defScope st_is_edge) := ⟨rfl, rfl, rfl, by decide +kernel, rfl, by decide +kernel, by decide +kernel⟩
abbrev st_is_graph : Stmt := topS 8
abbrev N_is_graph : List Str := ["value", "own", "one", "other"]
abbrev P_is_graph : List Str := ["value"]
theorem sc_is_graph : FnScope N_is_graph P_is_graph (defScope st_is_graph) := ⟨rfl, rfl, rfl, by decide +kernel, rfl, by decide +kernel, by decide +kernel⟩
abbrev st_check_graph : Stmt := topS 9
abbrev N_check_graph : List Str := ["graph", "name"]
abbrev P_check_graph : List Str := ["graph", "name"]
theorem sc_check_graph : FnScope N_check_graph P_check_graph (defScope st_check_graph) := ⟨rfl, rfl, rfl, by decide +kernel, rfl, by decide +kernel, by decide +kernel⟩
abbrev st_near_in : Stmt := topS 13
abbrev N_near_in : List Str := ["graph", "found", "one", "other", "point", "own"]
abbrev P_near_in : List Str := ["graph"]
theorem sc_near_in : FnScope N_near_in P_near_in (defScope st_near_in) := ⟨rfl, rfl, rfl, by decide +kernel, rfl, by decide +kernel, by decide +kernel⟩
abbrev st_reached_in : Stmt := topS 15
abbrev N_reached_in : List Str := ["near_rows", "first", "among", "found", "left", "other"]
abbrev P_reached_in : List Str := ["near_rows", "first", "among"]
theorem sc_reached_in : FnScope N_reached_in P_reached_in (defScope st_reached_in) := ⟨rfl, rfl, rfl, by decide +kernel, rfl, by decide +kernel, by decide +kernel⟩
abbrev st_pieces_among : Stmt := topS 16
abbrev N_pieces_among : List Str := ["graph", "points", "rows", "among", "found", "point", "piece", "own"]
abbrev P_pieces_among : List Str := ["graph", "points"]
theorem sc_pieces_among : FnScope N_pieces_among P_pieces_among (defScope st_pieces_among) := ⟨rfl, rfl, rfl, by decide +kernel, rfl, by decide +kernel, by decide +kernel⟩
abbrev st_hangs_in : Stmt := topS 19
abbrev N_hangs_in : List Str := ["graph", "points"]
abbrev P_hangs_in : List Str := ["graph", "points"]
theorem sc_hangs_in : FnScope N_hangs_in P_hangs_in (defScope st_hangs_in) := ⟨rfl, rfl, rfl, by decide +kernel, rfl, by decide +kernel, by decide +kernel⟩
abbrev st_hangs : Stmt := topS 20
abbrev N_hangs : List Str := ["graph", "points"]
abbrev P_hangs : List Str := ["graph", "points"]
theorem sc_hangs : FnScope N_hangs P_hangs (defScope st_hangs) := ⟨rfl, rfl, rfl, by decide +kernel, rfl, by decide +kernel, by decide +kernel⟩
abbrev st_near : Stmt := topS 14
abbrev N_near : List Str := ["graph", "own"]
abbrev P_near : List Str := ["graph"]
theorem sc_near : FnScope N_near P_near (defScope st_near) := ⟨rfl, rfl, rfl, by decide +kernel, rfl, by decide +kernel, by decide +kernel⟩
abbrev st_pieces_in : Stmt := topS 17
abbrev N_pieces_in : List Str := ["graph"]
abbrev P_pieces_in : List Str := ["graph"]
theorem sc_pieces_in : FnScope N_pieces_in P_pieces_in (defScope st_pieces_in) := ⟨rfl, rfl, rfl, by decide +kernel, rfl, by decide +kernel, by decide +kernel⟩
abbrev st_pieces_of : Stmt := topS 18
abbrev N_pieces_of : List Str := ["graph", "own"]
abbrev P_pieces_of : List Str := ["graph"]
theorem sc_pieces_of : FnScope N_pieces_of P_pieces_of (defScope st_pieces_of) := ⟨rfl, rfl, rfl, by decide +kernel, rfl, by decide +kernel, by decide +kernel⟩
abbrev st_relabelled_in : Stmt := topS 21
abbrev N_relabelled_in : List Str := ["graph", "numbers", "one", "other"]
abbrev P_relabelled_in : List Str := ["graph", "numbers"]
theorem sc_relabelled_in : FnScope N_relabelled_in P_relabelled_in (defScope st_relabelled_in) := ⟨rfl, rfl, rfl, by decide +kernel, rfl, by decide +kernel, by decide +kernel⟩
abbrev st_relabelled : Stmt := topS 22
abbrev N_relabelled : List Str := ["graph", "numbers", "own"]
abbrev P_relabelled : List Str := ["graph", "numbers"]
theorem sc_relabelled : FnScope N_relabelled P_relabelled (defScope st_relabelled) := ⟨rfl, rfl, rfl, by decide +kernel, rfl, by decide +kernel, by decide +kernel⟩
abbrev st__law_family_holds : Stmt := topS 46
abbrev N__law_family_holds : List Str := ["state", "word", "own", "graph", "order", "is_whole", "moved", "rows", "i", "far", "due", "j"]
abbrev P__law_family_holds : List Str := ["state", "word", "own"]
theorem sc__law_family_holds : FnScope N__law_family_holds P__law_family_holds (defScope st__law_family_holds) := ⟨rfl, rfl, rfl, by decide +kernel, rfl, by decide +kernel, by decide +kernel⟩
abbrev st__law_least : Stmt := topS 44
abbrev N__law_least : List Str := ["told"]
abbrev P__law_least : List Str := []
theorem sc__law_least : FnScope N__law_least P__law_least (defScope st__law_least) := ⟨rfl, rfl, rfl, by decide +kernel, rfl, by decide +kernel, by decide +kernel⟩
abbrev st__law_most : Stmt := topS 45
abbrev N__law_most : List Str := ["word", "told"]
abbrev P__law_most : List Str := ["word"]
theorem sc__law_most : FnScope N__law_most P__law_most (defScope st__law_most) := ⟨rfl, rfl, rfl, by decide +kernel, rfl, by decide +kernel, by decide +kernel⟩
abbrev st__law_petersen_holds : Stmt := topS 47
abbrev N__law_petersen_holds : List Str := ["state", "rows", "i", "j", "both", "own"]
abbrev P__law_petersen_holds : List Str := ["state"]
theorem sc__law_petersen_holds : FnScope N__law_petersen_holds P__law_petersen_holds (defScope st__law_petersen_holds) := ⟨rfl, rfl, rfl, by decide +kernel, rfl, by decide +kernel, by decide +kernel⟩
abbrev st__law_start : Stmt := topS 37
abbrev N__law_start : List Str := ["script", "seed", "cell"]
abbrev P__law_start : List Str := ["script"]
theorem sc__law_start : FnScope N__law_start P__law_start (defScope st__law_start) := ⟨rfl, rfl, rfl, by decide +kernel, rfl, by decide +kernel, by decide +kernel⟩
abbrev st_law : Stmt := topS 48
abbrev N_law : List Str := ["script", "state", "word", "least", "most", "own", "k"]
abbrev P_law : List Str := ["script"]
theorem sc_law : FnScope N_law P_law (defScope st_law) := ⟨rfl, rfl, rfl, by decide +kernel, rfl, by decide +kernel, by decide +kernel⟩
def T_LEAST : List (Str × D) := [("ring", .tup [.int (3)]), ("path", .tup [.int (0)]), ("complete", .tup [.int (0)]), ("bipartite", .tup [.int (0), .int (0)]), ("wheel", .tup [.int (3)]), ("grid", .tup [.int (1), .int (1)]), ("prism", .tup [.int (3)]), ("cube", .tup [.int (0)]), ("moebius", .tup [.int (2)]), ("star", .tup [.int (0)]), ("petersen", .tup []), ("diamond", .tup []), ("longclaw", .tup []), ("butterfly", .tup [])]
/-! ### machines -/
noncomputable def b__law_draw : SM := sSeq (sIf (tAn (tV (m2 eqM (m2 ixA (mVar 0) (mC (.int (3)))) (mC (.int (0))))) (tV (m2 ltM (m2 ixA (mVar 0) (mC (.int (1)))) (mFn fLenA (aCons (m2 ixA (mVar 0) (mC (.int (0)))) (aNil)))))) (sSeq (sAsg (gTp (gsCons (gSb setA (mVar 0) (mC (.int (2)))) (gsCons (gSb setA (mVar 0) (mC (.int (3)))) (gsCons (gSb setA (mVar 0) (mC (.int (1)))) (gsNil))))) (mFn mkT (aCons (m2 ixA (m2 ixA (mVar 0) (mC (.int (0)))) (m2 ixA (mVar 0) (mC (.int (1))))) (aCons (mC (.int (60))) (aCons (m2 addM (m2 ixA (mVar 0) (mC (.int (1)))) (mC (.int (1)))) (aNil)))))) (sNil)) (sNil)) (sSeq (sIf (tV (m2 gtM (m2 ixA (mVar 0) (mC (.int (3)))) (mC (.int (0))))) (sSeq (sSet 2 (m2 modM (mFn fInt (aCons (m2 ixA (mVar 0) (mC (.int (2)))) (aNil))) (mVar 1))) (sSeq (sAsg (gSb setA (mVar 0) (mC (.int (2)))) (m2 fdivM (m2 ixA (mVar 0) (mC (.int (2)))) (mVar 1))) (sSeq (sAsg (gSb setA (mVar 0) (mC (.int (3)))) (mIf (tV (m2 gtM (m2 ixA (mVar 0) (mC (.int (2)))) (mC (.int (0))))) (m2 subM (m2 ixA (mVar 0) (mC (.int (3)))) (mC (.int (1)))) (mC (.int (0))))) (sSeq (sRet (mVar 2)) (sNil))))) (sNil)) (sSeq (sAsg (gSb setA (mVar 0) (mC (.int (5)))) (m2 addM (m2 ixA (mVar 0) (mC (.int (5)))) (mC (.int (1))))) (sSeq (sAsg (gSb setA (mVar 0) (mC (.int (4)))) (m2 modM (mFn fInt (aCons (m2 addM (m2 addM (m2 mulA (m2 ixA (mVar 0) (mC (.int (4)))) (mC (.int (48271)))) (m2 mulA (m2 mulA (m2 ixA (mVar 0) (mC (.int (5)))) (m2 ixA (mVar 0) (mC (.int (5))))) (mC (.int (69621))))) (mC (.int (11)))) (aNil))) (mC (.int (2147483647))))) (sSeq (sRet (m2 modM (mFn fInt (aCons (m2 fdivM (m2 ixA (mVar 0) (mC (.int (4)))) (mC (.int (13)))) (aNil))) (mVar 1))) (sNil)))))
noncomputable def f__law_draw : List D → M D := mFun 2 3 b__law_draw
noncomputable def b__law_digits : SM := sSeq (sSet 2 (mC (.int (0)))) (sSeq (sFor (mRange1 (aCons (mC (.int (5))) (aNil))) (gNm 3) (sSeq (sSet 2 (m2 addM (mVar 2) (mIf (tV (m2 neM (m2 subM (mVar 0) (m2 mulA (m2 fdivM (mVar 0) (mC (.int (2)))) (mC (.int (2))))) (m2 subM (mVar 1) (m2 mulA (m2 fdivM (mVar 1) (mC (.int (2)))) (mC (.int (2))))))) (mC (.int (1))) (mC (.int (0)))))) (sSeq (sPar 0 1 (m2 fdivM (mVar 0) (mC (.int (2)))) (m2 fdivM (mVar 1) (mC (.int (2))))) (sNil)))) (sSeq (sRet (mVar 2)) (sNil)))
noncomputable def f__law_digits : List D → M D := mFun 2 4 b__law_digits
noncomputable def b__law_round : SM := sSeq (sSet 3 (mFn fAbs (aCons (m2 subM (mVar 1) (mVar 2)) (aNil)))) (sSeq (sRet (mFn fMinA (aCons (mFn mkL (aCons (mVar 3) (aCons (m2 subM (mVar 0) (mVar 3)) (aNil)))) (aNil)))) (sNil))
noncomputable def f__law_round : List D → M D := mFun 3 4 b__law_round
noncomputable def b__law_due : SM := sSeq (sSet 4 (m2 ixA (mVar 1) (mC (.int (0))))) (sSeq (sIf (tV (m2 eqM (mVar 0) (mC (.str "ring")))) (sSeq (sRet (mCall f__law_round [] (aCons (mVar 4) (aCons (mVar 2) (aCons (mVar 3) (aNil)))))) (sNil)) (sNil)) (sSeq (sIf (tV (m2 eqM (mVar 0) (mC (.str "path")))) (sSeq (sRet (mFn fAbs (aCons (m2 subM (mVar 2) (mVar 3)) (aNil)))) (sNil)) (sNil)) (sSeq (sIf (tV (m2 eqM (mVar 0) (mC (.str "complete")))) (sSeq (sRet (mC (.int (1)))) (sNil)) (sNil)) (sSeq (sIf (tV (m2 eqM (mVar 0) (mC (.str "bipartite")))) (sSeq (sRet (mIf (tV (m2 neM (m2 ltM (mVar 2) (mVar 4)) (m2 ltM (mVar 3) (mVar 4)))) (mC (.int (1))) (mIf (tV (m2 gtM (mFn fMinA (aCons (mVar 1) (aNil))) (mC (.int (0))))) (mC (.int (2))) (mC .non)))) (sNil)) (sNil)) (sSeq (sIf (tV (m2 inA (mVar 0) (mFn mkL (aCons (mC (.str "wheel")) (aCons (mC (.str "star")) (aNil)))))) (sSeq (sRet (mIf (tOrr (tV (m2 inA (mVar 4) (mFn mkL (aCons (mVar 2) (aCons (mVar 3) (aNil)))))) (tAn (tV (m2 eqM (mVar 0) (mC (.str "wheel")))) (tV (m2 eqM (mCall f__law_round [] (aCons (mVar 4) (aCons (mVar 2) (aCons (mVar 3) (aNil))))) (mC (.int (1))))))) (mC (.int (1))) (mC (.int (2))))) (sNil)) (sNil)) (sSeq (sIf (tV (m2 eqM (mVar 0) (mC (.str "grid")))) (sSeq (sSet 5 (m2 ixA (mVar 1) (mC (.int (1))))) (sSeq (sRet (m2 addM (mFn fAbs (aCons (m2 subM (m2 fdivM (mVar 2) (mVar 5)) (m2 fdivM (mVar 3) (mVar 5))) (aNil))) (mFn fAbs (aCons (m2 subM (m2 subM (mVar 2) (m2 mulA (m2 fdivM (mVar 2) (mVar 5)) (mVar 5))) (m2 subM (mVar 3) (m2 mulA (m2 fdivM (mVar 3) (mVar 5)) (mVar 5)))) (aNil))))) (sNil))) (sNil)) (sSeq (sIf (tV (m2 eqM (mVar 0) (mC (.str "prism")))) (sSeq (sRet (m2 addM (mCall f__law_round [] (aCons (mVar 4) (aCons (m2 subM (mVar 2) (m2 mulA (m2 fdivM (mVar 2) (mVar 4)) (mVar 4))) (aCons (m2 subM (mVar 3) (m2 mulA (m2 fdivM (mVar 3) (mVar 4)) (mVar 4))) (aNil))))) (mIf (tV (m2 neM (m2 fdivM (mVar 2) (mVar 4)) (m2 fdivM (mVar 3) (mVar 4)))) (mC (.int (1))) (mC (.int (0)))))) (sNil)) (sNil)) (sSeq (sIf (tV (m2 eqM (mVar 0) (mC (.str "moebius")))) (sSeq (sSet 6 (mCall f__law_round [] (aCons (m2 mulA (mC (.int (2))) (mVar 4)) (aCons (mVar 2) (aCons (mVar 3) (aNil)))))) (sSeq (sRet (mFn fMinA (aCons (mFn mkL (aCons (mVar 6) (aCons (m2 addM (m2 subM (mVar 4) (mVar 6)) (mC (.int (1)))) (aNil)))) (aNil)))) (sNil))) (sNil)) (sSeq (sRet (mCall f__law_digits [] (aCons (mVar 2) (aCons (mVar 3) (aNil))))) (sNil))))))))))
noncomputable def f__law_due : List D → M D := mFun 4 7 b__law_due
noncomputable def b__law_far : SM := sSeq (sAsg (gTp (gsCons (gNm 2) (gsCons (gNm 3) (gsNil)))) (mFn mkT (aCons (mDisp (dpCons (mVar 1) (mC (.int (0))) (dpNil))) (aCons (mFn mkL (aCons (mVar 1) (aNil))) (aNil))))) (sSeq (sFor (mRange1 (aCons (mFn fLenA (aCons (mVar 0) (aNil))) (aNil))) (gNm 4) (sSeq (sSet 5 (mFn mkL (aNil))) (sSeq (sFor (mSeq (mVar 3)) (gNm 6) (sSeq (sExpr (mMeth isLst extendM (mVar 5) (aCons (mComp (([("one", 7)] : List (Str × Nat)).map (·.2)) (mSeq (m2 ixA (mVar 0) (mVar 6))) (gNm 7) (tAn (tV (m2 ninA (mVar 7) (mVar 2))) (tV (m2 ninA (mVar 7) (mVar 5)))) (mVar 7)) (aNil)))) (sNil))) (sSeq (sFor (mSeq (mVar 5)) (gNm 6) (sSeq (sAsg (gSb setA (mVar 2) (mVar 6)) (m2 addM (mVar 4) (mC (.int (1))))) (sNil))) (sSeq (sSet 3 (mVar 5)) (sNil)))))) (sSeq (sRet (mComp (([("own", 6)] : List (Str × Nat)).map (·.2)) (mRange1 (aCons (mFn fLenA (aCons (mVar 0) (aNil))) (aNil))) (gNm 6) (tTrue) (mMeth isDct getM (mVar 2) (aCons (mVar 6) (aCons (mC .non) (aNil)))))) (sNil)))
noncomputable def f__law_far : List D → M D := mFun 2 8 b__law_far
noncomputable def b__law_order : SM := sSeq (sPar 2 3 (mRgL1 (mVar 1)) (mFn mkL (aNil))) (sSeq (sFor (mRange1 (aCons (mVar 1) (aNil))) (gNm 4) (sSeq (sExpr (mMeth isLst appendM (mVar 3) (aCons (mMeth isLD popM (mVar 2) (aCons (mCall f__law_draw [] (aCons (mVar 0) (aCons (mFn fLenA (aCons (mVar 2) (aNil))) (aNil)))) (aNil))) (aNil)))) (sNil))) (sSeq (sRet (mFn fTuple (aCons (mVar 3) (aNil)))) (sNil)))
noncomputable def f__law_order : List D → M D := mFun 2 5 b__law_order
noncomputable def b_edge_in : SM := sSeq (sRet (mIf (tV (m2 ltM (mVar 0) (mVar 1))) (mFn mkT (aCons (mVar 0) (aCons (mVar 1) (aNil)))) (mFn mkT (aCons (mVar 1) (aCons (mVar 0) (aNil)))))) (sNil)
noncomputable def f_edge_in : List D → M D := mFun 2 2 b_edge_in
noncomputable def b_graph_in : SM := sSeq (sRet (mFn mkT (aCons (mVar 0) (aCons (mFn fTuple (aCons (mFn fSorted (aCons (mDComp (([("one", 2), ("other", 3)] : List (Str × Nat)).map (·.2)) (mSeq (mVar 1)) (gTp (gsCons (gNm 2) (gsCons (gNm 3) (gsNil)))) (tTrue) (mCall f_edge_in [] (aCons (mVar 2) (aCons (mVar 3) (aNil)))) (mC (.bl true))) (aNil))) (aNil))) (aNil))))) (sNil)
noncomputable def f_graph_in : List D → M D := mFun 2 4 b_graph_in
noncomputable def b_all_pairs : SM := sSeq (sRet (mComp2 (([("other", 1), ("one", 2)] : List (Str × Nat)).map (·.2)) (mRange1 (aCons (mVar 0) (aNil))) (gNm 1) (tTrue) [2] (mRange1 (aCons (mVar 1) (aNil))) (gNm 2) (tTrue) (mFn mkT (aCons (mVar 2) (aCons (mVar 1) (aNil)))))) (sNil)
noncomputable def f_all_pairs : List D → M D := mFun 1 3 b_all_pairs
noncomputable def b_cube_pairs : SM := sSeq (sSet 1 (mComp (([("at", 2)] : List (Str × Nat)).map (·.2)) (mRange1 (aCons (mVar 0) (aNil))) (gNm 2) (tTrue) (m2 shlM (mC (.int (1))) (mVar 2)))) (sSeq (sRet (mComp2 (([("own", 3), ("power", 4)] : List (Str × Nat)).map (·.2)) (mRange1 (aCons (m2 shlM (mC (.int (1))) (mVar 0)) (aNil))) (gNm 3) (tTrue) [4] (mSeq (mVar 1)) (gNm 4) (tV (m2 eqM (m2 modM (m2 fdivM (mVar 3) (mVar 4)) (mC (.int (2)))) (mC (.int (0))))) (mFn mkT (aCons (mVar 3) (aCons (m2 addM (mVar 3) (mVar 4)) (aNil)))))) (sNil))
noncomputable def f_cube_pairs : List D → M D := mFun 1 5 b_cube_pairs
noncomputable def b_grid_pairs : SM := sSeq (sSet 2 (mComp2 (([("row", 3), ("at", 4)] : List (Str × Nat)).map (·.2)) (mRange1 (aCons (mVar 0) (aNil))) (gNm 3) (tTrue) [4] (mRange1 (aCons (m2 subM (mVar 1) (mC (.int (1)))) (aNil))) (gNm 4) (tTrue) (mFn mkT (aCons (m2 addM (m2 mulA (mVar 1) (mVar 3)) (mVar 4)) (aCons (m2 addM (m2 addM (m2 mulA (mVar 1) (mVar 3)) (mVar 4)) (mC (.int (1)))) (aNil)))))) (sSeq (sRet (m2 addM (mVar 2) (mComp2 (([("row", 3), ("at", 4)] : List (Str × Nat)).map (·.2)) (mRange1 (aCons (m2 subM (mVar 0) (mC (.int (1)))) (aNil))) (gNm 3) (tTrue) [4] (mRange1 (aCons (mVar 1) (aNil))) (gNm 4) (tTrue) (mFn mkT (aCons (m2 addM (m2 mulA (mVar 1) (mVar 3)) (mVar 4)) (aCons (m2 addM (m2 addM (m2 mulA (mVar 1) (mVar 3)) (mVar 1)) (mVar 4)) (aNil))))))) (sNil))
noncomputable def f_grid_pairs : List D → M D := mFun 2 5 b_grid_pairs
noncomputable def b_ring_pairs : SM := sSeq (sRet (mComp (([("at", 2)] : List (Str × Nat)).map (·.2)) (mRange1 (aCons (mVar 1) (aNil))) (gNm 2) (tTrue) (mFn mkT (aCons (m2 addM (mVar 0) (mVar 2)) (aCons (m2 addM (mVar 0) (m2 modM (m2 addM (mVar 2) (mC (.int (1)))) (mVar 1))) (aNil)))))) (sNil)
noncomputable def f_ring_pairs : List D → M D := mFun 2 3 b_ring_pairs
noncomputable def b_named_pairs : SM := sSeq (sIf (tV (m2 eqM (mVar 0) (mC (.str "petersen")))) (sSeq (sSet 1 (mComp (([("at", 2)] : List (Str × Nat)).map (·.2)) (mRange1 (aCons (mC (.int (5))) (aNil))) (gNm 2) (tTrue) (mFn mkT (aCons (m2 addM (mC (.int (5))) (mVar 2)) (aCons (m2 addM (mC (.int (5))) (m2 modM (m2 addM (mVar 2) (mC (.int (2)))) (mC (.int (5))))) (aNil)))))) (sSeq (sRet (m2 addM (m2 addM (mCall f_ring_pairs [] (aCons (mC (.int (0))) (aCons (mC (.int (5))) (aNil)))) (mVar 1)) (mComp (([("at", 2)] : List (Str × Nat)).map (·.2)) (mRange1 (aCons (mC (.int (5))) (aNil))) (gNm 2) (tTrue) (mFn mkT (aCons (mVar 2) (aCons (m2 addM (mC (.int (5))) (mVar 2)) (aNil))))))) (sNil))) (sNil)) (sSeq (sIf (tV (m2 eqM (mVar 0) (mC (.str "diamond")))) (sSeq (sRet (mFn mkL (aCons (mFn mkT (aCons (mC (.int (0))) (aCons (mC (.int (1))) (aNil)))) (aCons (mFn mkT (aCons (mC (.int (0))) (aCons (mC (.int (2))) (aNil)))) (aCons (mFn mkT (aCons (mC (.int (1))) (aCons (mC (.int (2))) (aNil)))) (aCons (mFn mkT (aCons (mC (.int (0))) (aCons (mC (.int (3))) (aNil)))) (aCons (mFn mkT (aCons (mC (.int (1))) (aCons (mC (.int (3))) (aNil)))) (aNil)))))))) (sNil)) (sNil)) (sSeq (sIf (tV (m2 eqM (mVar 0) (mC (.str "longclaw")))) (sSeq (sRet (mFn mkL (aCons (mFn mkT (aCons (mC (.int (0))) (aCons (mC (.int (1))) (aNil)))) (aCons (mFn mkT (aCons (mC (.int (0))) (aCons (mC (.int (2))) (aNil)))) (aCons (mFn mkT (aCons (mC (.int (0))) (aCons (mC (.int (3))) (aNil)))) (aCons (mFn mkT (aCons (mC (.int (1))) (aCons (mC (.int (4))) (aNil)))) (aCons (mFn mkT (aCons (mC (.int (2))) (aCons (mC (.int (5))) (aNil)))) (aCons (mFn mkT (aCons (mC (.int (3))) (aCons (mC (.int (6))) (aNil)))) (aNil))))))))) (sNil)) (sNil)) (sSeq (sRet (mFn mkL (aCons (mFn mkT (aCons (mC (.int (0))) (aCons (mC (.int (1))) (aNil)))) (aCons (mFn mkT (aCons (mC (.int (0))) (aCons (mC (.int (2))) (aNil)))) (aCons (mFn mkT (aCons (mC (.int (1))) (aCons (mC (.int (2))) (aNil)))) (aCons (mFn mkT (aCons (mC (.int (0))) (aCons (mC (.int (3))) (aNil)))) (aCons (mFn mkT (aCons (mC (.int (0))) (aCons (mC (.int (4))) (aNil)))) (aCons (mFn mkT (aCons (mC (.int (3))) (aCons (mC (.int (4))) (aNil)))) (aNil))))))))) (sNil))))
noncomputable def f_named_pairs : List D → M D := mFun 1 3 b_named_pairs
noncomputable def b_path_pairs : SM := sSeq (sRet (mComp (([("at", 1)] : List (Str × Nat)).map (·.2)) (mRange1 (aCons (m2 subM (mVar 0) (mC (.int (1)))) (aNil))) (gNm 1) (tTrue) (mFn mkT (aCons (mVar 1) (aCons (m2 addM (mVar 1) (mC (.int (1)))) (aNil)))))) (sNil)
noncomputable def f_path_pairs : List D → M D := mFun 1 2 b_path_pairs
noncomputable def b_points_of : SM := sSeq (sIf (tV (m2 inA (mVar 0) (mFn mkT (aCons (mC (.str "ring")) (aCons (mC (.str "path")) (aCons (mC (.str "complete")) (aNil))))))) (sSeq (sRet (m2 ixA (mVar 1) (mC (.int (0))))) (sNil)) (sNil)) (sSeq (sIf (tV (m2 inA (mVar 0) (mFn mkT (aCons (mC (.str "wheel")) (aCons (mC (.str "star")) (aNil)))))) (sSeq (sRet (m2 addM (m2 ixA (mVar 1) (mC (.int (0)))) (mC (.int (1))))) (sNil)) (sNil)) (sSeq (sIf (tV (m2 inA (mVar 0) (mFn mkT (aCons (mC (.str "prism")) (aCons (mC (.str "moebius")) (aNil)))))) (sSeq (sRet (m2 mulA (mC (.int (2))) (m2 ixA (mVar 1) (mC (.int (0)))))) (sNil)) (sNil)) (sSeq (sIf (tV (m2 eqM (mVar 0) (mC (.str "bipartite")))) (sSeq (sRet (m2 addM (m2 ixA (mVar 1) (mC (.int (0)))) (m2 ixA (mVar 1) (mC (.int (1)))))) (sNil)) (sNil)) (sSeq (sIf (tV (m2 eqM (mVar 0) (mC (.str "grid")))) (sSeq (sRet (m2 mulA (m2 ixA (mVar 1) (mC (.int (0)))) (m2 ixA (mVar 1) (mC (.int (1)))))) (sNil)) (sNil)) (sSeq (sIf (tV (m2 eqM (mVar 0) (mC (.str "cube")))) (sSeq (sRet (m2 shlM (mC (.int (1))) (mFn fMinA (aCons (m2 ixA (mVar 1) (mC (.int (0)))) (aCons (mC (.int (9))) (aNil)))))) (sNil)) (sNil)) (sSeq (sRet (m2 ixA (mDisp (dpCons (mC (.str "petersen")) (mC (.int (10))) (dpCons (mC (.str "diamond")) (mC (.int (4))) (dpCons (mC (.str "longclaw")) (mC (.int (7))) (dpCons (mC (.str "butterfly")) (mC (.int (5))) (dpNil)))))) (mVar 0))) (sNil)))))))
noncomputable def f_points_of : List D → M D := mFun 2 2 b_points_of
noncomputable def b_sided_pairs : SM := sSeq (sRet (mComp2 (([("first", 2), ("second", 3)] : List (Str × Nat)).map (·.2)) (mRange1 (aCons (mVar 0) (aNil))) (gNm 2) (tTrue) [3] (mRange1 (aCons (mVar 1) (aNil))) (gNm 3) (tTrue) (mFn mkT (aCons (mVar 2) (aCons (m2 addM (mVar 0) (mVar 3)) (aNil)))))) (sNil)
noncomputable def f_sided_pairs : List D → M D := mFun 2 4 b_sided_pairs
noncomputable def b_pairs_of : SM := sSeq (sSet 2 (mCall f_points_of [] (aCons (mVar 0) (aCons (mVar 1) (aNil))))) (sSeq (sIf (tV (m2 eqM (mVar 0) (mC (.str "ring")))) (sSeq (sRet (mCall f_ring_pairs [] (aCons (mC (.int (0))) (aCons (mVar 2) (aNil))))) (sNil)) (sNil)) (sSeq (sIf (tV (m2 eqM (mVar 0) (mC (.str "path")))) (sSeq (sRet (mCall f_path_pairs [] (aCons (mVar 2) (aNil)))) (sNil)) (sNil)) (sSeq (sIf (tV (m2 eqM (mVar 0) (mC (.str "complete")))) (sSeq (sRet (mCall f_all_pairs [] (aCons (mVar 2) (aNil)))) (sNil)) (sNil)) (sSeq (sIf (tV (m2 eqM (mVar 0) (mC (.str "bipartite")))) (sSeq (sRet (mCall f_sided_pairs [] (aCons (m2 ixA (mVar 1) (mC (.int (0)))) (aCons (m2 ixA (mVar 1) (mC (.int (1)))) (aNil))))) (sNil)) (sNil)) (sSeq (sIf (tV (m2 inA (mVar 0) (mFn mkT (aCons (mC (.str "wheel")) (aCons (mC (.str "star")) (aNil)))))) (sSeq (sSet 3 (mComp (([("own", 5)] : List (Str × Nat)).map (·.2)) (mRange1 (aCons (m2 subM (mVar 2) (mC (.int (1)))) (aNil))) (gNm 5) (tTrue) (mFn mkT (aCons (mVar 5) (aCons (m2 subM (mVar 2) (mC (.int (1)))) (aNil)))))) (sSeq (sRet (m2 addM (mVar 3) (mIf (tV (m2 eqM (mVar 0) (mC (.str "wheel")))) (mCall f_ring_pairs [] (aCons (mC (.int (0))) (aCons (m2 subM (mVar 2) (mC (.int (1)))) (aNil)))) (mFn mkL (aNil))))) (sNil))) (sNil)) (sSeq (sIf (tV (m2 eqM (mVar 0) (mC (.str "grid")))) (sSeq (sRet (mCall f_grid_pairs [] (aCons (m2 ixA (mVar 1) (mC (.int (0)))) (aCons (m2 ixA (mVar 1) (mC (.int (1)))) (aNil))))) (sNil)) (sNil)) (sSeq (sIf (tV (m2 eqM (mVar 0) (mC (.str "prism")))) (sSeq (sSet 4 (m2 ixA (mVar 1) (mC (.int (0))))) (sSeq (sRet (m2 addM (m2 addM (mCall f_ring_pairs [] (aCons (mC (.int (0))) (aCons (mVar 4) (aNil)))) (mCall f_ring_pairs [] (aCons (mVar 4) (aCons (mVar 4) (aNil))))) (mComp (([("own", 5)] : List (Str × Nat)).map (·.2)) (mRange1 (aCons (mVar 4) (aNil))) (gNm 5) (tTrue) (mFn mkT (aCons (mVar 5) (aCons (m2 addM (mVar 5) (mVar 4)) (aNil))))))) (sNil))) (sNil)) (sSeq (sIf (tV (m2 eqM (mVar 0) (mC (.str "moebius")))) (sSeq (sRet (m2 addM (mCall f_ring_pairs [] (aCons (mC (.int (0))) (aCons (mVar 2) (aNil)))) (mComp (([("own", 5)] : List (Str × Nat)).map (·.2)) (mRange1 (aCons (m2 ixA (mVar 1) (mC (.int (0)))) (aNil))) (gNm 5) (tTrue) (mFn mkT (aCons (mVar 5) (aCons (m2 addM (mVar 5) (m2 ixA (mVar 1) (mC (.int (0))))) (aNil))))))) (sNil)) (sNil)) (sSeq (sRet (mIf (tV (m2 eqM (mVar 0) (mC (.str "cube")))) (mCall f_cube_pairs [] (aCons (m2 ixA (mVar 1) (mC (.int (0)))) (aNil))) (mCall f_named_pairs [] (aCons (mVar 0) (aNil))))) (sNil))))))))))
noncomputable def f_pairs_of : List D → M D := mFun 2 6 b_pairs_of
noncomputable def b_family_in : SM := sSeq (sRet (mCall f_graph_in [] (aCons (mCall f_points_of [] (aCons (mVar 0) (aCons (mVar 1) (aNil)))) (aCons (mCall f_pairs_of [] (aCons (mVar 0) (aCons (mVar 1) (aNil)))) (aNil))))) (sNil)
noncomputable def f_family_in : List D → M D := mFun 2 2 b_family_in
noncomputable def b_is_integer : SM := sSeq (sRet (mAnd (mIsi "int" (mVar 0)) (mNot (mIsi "bool" (mVar 0))))) (sNil)
noncomputable def f_is_integer : List D → M D := mFun 1 1 b_is_integer
noncomputable def b_family : SM := sSeq (sIf (tOrr (tNt (tTr (mIsi "str" (mVar 0)))) (tV (m1 (tabIn T_LEAST false) (mVar 0)))) (sSeq (sNever) (sNil)) (sNil)) (sSeq (sSet 2 (m1 (tabIx T_LEAST) (mVar 0))) (sSeq (sIf (tOrr (tNt (tTr (mIsi "tuple" (mVar 1)))) (tOrr (tV (m2 neM (mFn fLenA (aCons (mVar 1) (aNil))) (mFn fLenA (aCons (mVar 2) (aNil))))) (tNt (tTr (mFn fAll (aCons (mComp (([("own", 3)] : List (Str × Nat)).map (·.2)) (mSeq (mVar 1)) (gNm 3) (tTrue) (mCall f_is_integer [] (aCons (mVar 3) (aNil)))) (aNil))))))) (sSeq (sNever) (sNil)) (sNil)) (sSeq (sIf (tOrr (tNt (tTr (mFn fAll (aCons (mComp (([("own", 3), ("due", 4)] : List (Str × Nat)).map (·.2)) (mZip (aCons (mVar 1) (aCons (mVar 2) (aNil)))) (gTp (gsCons (gNm 3) (gsCons (gNm 4) (gsNil)))) (tTrue) (m2 geM (mVar 3) (mVar 4))) (aNil))))) (tV (m2 gtM (mCall f_points_of [] (aCons (mVar 0) (aCons (mVar 1) (aNil)))) (mC (.int (20)))))) (sSeq (sNever) (sNil)) (sNil)) (sSeq (sRet (mCall f_family_in [] (aCons (mVar 0) (aCons (mVar 1) (aNil))))) (sNil)))))
noncomputable def f_family : List D → M D := mFun 2 5 b_family
noncomputable def b_are_points : SM := sSeq (sIf (tOrr (tNt (tTr (mIsi "tuple" (mVar 0)))) (tNt (tTr (mFn fAll (aCons (mComp (([("own", 2)] : List (Str × Nat)).map (·.2)) (mSeq (mVar 0)) (gNm 2) (tTrue) (mAnd (mCall f_is_integer [] (aCons (mVar 2) (aNil))) (mChain (mC (.int (0))) (mLink leM (mVar 2) (mLast ltM (mVar 1)))))) (aNil)))))) (sSeq (sRet (mC (.bl false))) (sNil)) (sNil)) (sSeq (sRet (mFn fAll (aCons (mComp (([("one", 3), ("other", 4)] : List (Str × Nat)).map (·.2)) (mZip (aCons (mVar 0) (aCons (mSl (mVar 0) (oSome (mC (.int (1)))) oNone) (aNil)))) (gTp (gsCons (gNm 3) (gsCons (gNm 4) (gsNil)))) (tTrue) (m2 ltM (mVar 3) (mVar 4))) (aNil)))) (sNil))
noncomputable def f_are_points : List D → M D := mFun 2 5 b_are_points
noncomputable def b_is_edge : SM := sSeq (sIf (tOrr (tNt (tTr (mIsi "tuple" (mVar 0)))) (tOrr (tV (m2 neM (mFn fLenA (aCons (mVar 0) (aNil))) (mC (.int (2))))) (tOrr (tNt (tTr (mCall f_is_integer [] (aCons (m2 ixA (mVar 0) (mC (.int (0)))) (aNil))))) (tNt (tTr (mCall f_is_integer [] (aCons (m2 ixA (mVar 0) (mC (.int (1)))) (aNil)))))))) (sSeq (sRet (mC (.bl false))) (sNil)) (sNil)) (sSeq (sRet (mChain (mC (.int (0))) (mLink leM (m2 ixA (mVar 0) (mC (.int (0)))) (mLink ltM (m2 ixA (mVar 0) (mC (.int (1)))) (mLast ltM (mVar 1)))))) (sNil))
noncomputable def f_is_edge : List D → M D := mFun 2 2 b_is_edge
noncomputable def b_is_graph : SM := sSeq (sIf (tOrr (tNt (tTr (mIsi "tuple" (mVar 0)))) (tOrr (tV (m2 neM (mFn fLenA (aCons (mVar 0) (aNil))) (mC (.int (2))))) (tOrr (tNt (tTr (mCall f_is_integer [] (aCons (m2 ixA (mVar 0) (mC (.int (0)))) (aNil))))) (tNt (tTr (mIsi "tuple" (m2 ixA (mVar 0) (mC (.int (1)))))))))) (sSeq (sRet (mC (.bl false))) (sNil)) (sNil)) (sSeq (sIf (tOrr (tNt (tV (mChain (mC (.int (0))) (mLink leM (m2 ixA (mVar 0) (mC (.int (0)))) (mLast leM (mC (.int (20)))))))) (tNt (tTr (mFn fAll (aCons (mComp (([("own", 1)] : List (Str × Nat)).map (·.2)) (mSeq (m2 ixA (mVar 0) (mC (.int (1))))) (gNm 1) (tTrue) (mCall f_is_edge [] (aCons (mVar 1) (aCons (m2 ixA (mVar 0) (mC (.int (0)))) (aNil))))) (aNil)))))) (sSeq (sRet (mC (.bl false))) (sNil)) (sNil)) (sSeq (sRet (mFn fAll (aCons (mComp (([("one", 2), ("other", 3)] : List (Str × Nat)).map (·.2)) (mZip (aCons (m2 ixA (mVar 0) (mC (.int (1)))) (aCons (mSl (m2 ixA (mVar 0) (mC (.int (1)))) (oSome (mC (.int (1)))) oNone) (aNil)))) (gTp (gsCons (gNm 2) (gsCons (gNm 3) (gsNil)))) (tTrue) (m2 ltM (mVar 2) (mVar 3))) (aNil)))) (sNil)))
noncomputable def f_is_graph : List D → M D := mFun 1 4 b_is_graph
noncomputable def b_check_graph : SM := sSeq (sIf (tNt (tTr (mCall f_is_graph [] (aCons (mVar 0) (aNil))))) (sSeq (sNever) (sNil)) (sNil)) (sNil)
noncomputable def f_check_graph : List D → M D := mFun 2 2 b_check_graph
noncomputable def b_near_in : SM := sSeq (sSet 1 (mComp (([("point", 4)] : List (Str × Nat)).map (·.2)) (mRange1 (aCons (m2 ixA (mVar 0) (mC (.int (0)))) (aNil))) (gNm 4) (tTrue) (mFn mkL (aNil)))) (sSeq (sFor (mSeq (m2 ixA (mVar 0) (mC (.int (1))))) (gTp (gsCons (gNm 2) (gsCons (gNm 3) (gsNil)))) (sSeq (sExpr (mMeth isLst appendM (m2 ixA (mVar 1) (mVar 2)) (aCons (mVar 3) (aNil)))) (sSeq (sExpr (mMeth isLst appendM (m2 ixA (mVar 1) (mVar 3)) (aCons (mVar 2) (aNil)))) (sNil)))) (sSeq (sRet (mComp (([("own", 5)] : List (Str × Nat)).map (·.2)) (mSeq (mVar 1)) (gNm 5) (tTrue) (mFn fSorted (aCons (mVar 5) (aNil))))) (sNil)))
noncomputable def f_near_in : List D → M D := mFun 1 6 b_near_in
noncomputable def b_reached_in : SM := sSeq (sPar 3 4 (mDisp (dpCons (mVar 1) (mC (.bl true)) (dpNil))) (mFn mkL (aCons (mVar 1) (aNil)))) (sSeq (sWhile (tTr (mVar 4)) (sSeq (sFor (mSeq (m2 ixA (mVar 0) (mMeth isLD popM (mVar 4) aNil))) (gNm 5) (sSeq (sIf (tAn (tV (m2 inA (mVar 5) (mVar 2))) (tV (m2 ninA (mVar 5) (mVar 3)))) (sSeq (sAsg (gSb setA (mVar 3) (mVar 5)) (mC (.bl true))) (sSeq (sExpr (mMeth isLst appendM (mVar 4) (aCons (mVar 5) (aNil)))) (sNil))) (sNil)) (sNil))) (sNil))) (sSeq (sRet (mFn fSorted (aCons (mVar 3) (aNil)))) (sNil)))
noncomputable def f_reached_in : List D → M D := mFun 3 6 b_reached_in
noncomputable def b_pieces_among : SM := sSeq (sPar3 2 3 4 (mCall f_near_in [] (aCons (mVar 0) (aNil))) (mDComp (([("own", 7)] : List (Str × Nat)).map (·.2)) (mSeq (mVar 1)) (gNm 7) (tTrue) (mVar 7) (mC (.bl true))) (mFn mkL (aNil))) (sSeq (sFor (mSeq (mFn fSorted (aCons (mVar 1) (aNil)))) (gNm 5) (sSeq (sIf (tV (m2 inA (mVar 5) (mVar 3))) (sSeq (sSet 6 (mCall f_reached_in [] (aCons (mVar 2) (aCons (mVar 5) (aCons (mVar 3) (aNil)))))) (sSeq (sExpr (mMeth isLst appendM (mVar 4) (aCons (mVar 6) (aNil)))) (sSeq (lkM 3 (sSet 3 (mDComp (([("own", 7)] : List (Str × Nat)).map (·.2)) (mSeqD (mVar 3)) (gNm 7) (tV (m2 ninA (mVar 7) (mVar 6))) (mVar 7) (mC (.bl true))))) (sNil)))) (sNil)) (sNil))) (sSeq (sRet (mVar 4)) (sNil)))
noncomputable def f_pieces_among : List D → M D := mFun 2 8 b_pieces_among
noncomputable def b_hangs_in : SM := sSeq (sRet (m2 eqM (mFn fLenA (aCons (mCall f_pieces_among [] (aCons (mVar 0) (aCons (mVar 1) (aNil)))) (aNil))) (mC (.int (1))))) (sNil)
noncomputable def f_hangs_in : List D → M D := mFun 2 2 b_hangs_in
noncomputable def b_hangs : SM := sSeq (sExpr (mCall f_check_graph [.str "graph"] (aCons (mVar 0) (aNil)))) (sSeq (sIf (tNt (tTr (mCall f_are_points [] (aCons (mVar 1) (aCons (m2 ixA (mVar 0) (mC (.int (0)))) (aNil)))))) (sSeq (sNever) (sNil)) (sNil)) (sSeq (sRet (mCall f_hangs_in [] (aCons (mVar 0) (aCons (mVar 1) (aNil))))) (sNil)))
noncomputable def f_hangs : List D → M D := mFun 2 2 b_hangs
noncomputable def b_near : SM := sSeq (sExpr (mCall f_check_graph [.str "graph"] (aCons (mVar 0) (aNil)))) (sSeq (sRet (mFn fTuple (aCons (mComp (([("own", 1)] : List (Str × Nat)).map (·.2)) (mSeq (mCall f_near_in [] (aCons (mVar 0) (aNil)))) (gNm 1) (tTrue) (mFn fTuple (aCons (mVar 1) (aNil)))) (aNil)))) (sNil))
noncomputable def f_near : List D → M D := mFun 1 2 b_near
noncomputable def b_pieces_in : SM := sSeq (sRet (mCall f_pieces_among [] (aCons (mVar 0) (aCons (mRgL1 (m2 ixA (mVar 0) (mC (.int (0))))) (aNil))))) (sNil)
noncomputable def f_pieces_in : List D → M D := mFun 1 1 b_pieces_in
noncomputable def b_pieces_of : SM := sSeq (sExpr (mCall f_check_graph [.str "graph"] (aCons (mVar 0) (aNil)))) (sSeq (sRet (mFn fTuple (aCons (mComp (([("own", 1)] : List (Str × Nat)).map (·.2)) (mSeq (mCall f_pieces_in [] (aCons (mVar 0) (aNil)))) (gNm 1) (tTrue) (mFn fTuple (aCons (mVar 1) (aNil)))) (aNil)))) (sNil))
noncomputable def f_pieces_of : List D → M D := mFun 1 2 b_pieces_of
noncomputable def b_relabelled_in : SM := sSeq (sRet (mCall f_graph_in [] (aCons (m2 ixA (mVar 0) (mC (.int (0)))) (aCons (mComp (([("one", 2), ("other", 3)] : List (Str × Nat)).map (·.2)) (mSeq (m2 ixA (mVar 0) (mC (.int (1))))) (gTp (gsCons (gNm 2) (gsCons (gNm 3) (gsNil)))) (tTrue) (mFn mkT (aCons (m2 ixA (mVar 1) (mVar 2)) (aCons (m2 ixA (mVar 1) (mVar 3)) (aNil))))) (aNil))))) (sNil)
noncomputable def f_relabelled_in : List D → M D := mFun 2 4 b_relabelled_in
noncomputable def b_relabelled : SM := sSeq (sExpr (mCall f_check_graph [.str "graph"] (aCons (mVar 0) (aNil)))) (sSeq (sIf (tOrr (tNt (tTr (mIsi "tuple" (mVar 1)))) (tNt (tTr (mFn fAll (aCons (mComp (([("own", 2)] : List (Str × Nat)).map (·.2)) (mSeq (mVar 1)) (gNm 2) (tTrue) (mCall f_is_integer [] (aCons (mVar 2) (aNil)))) (aNil)))))) (sSeq (sNever) (sNil)) (sNil)) (sSeq (sIf (tV (m2 neM (mFn fSorted (aCons (mVar 1) (aNil))) (mRgL1 (m2 ixA (mVar 0) (mC (.int (0))))))) (sSeq (sNever) (sNil)) (sNil)) (sSeq (sRet (mCall f_relabelled_in [] (aCons (mVar 0) (aCons (mVar 1) (aNil))))) (sNil))))
noncomputable def f_relabelled : List D → M D := mFun 2 3 b_relabelled
noncomputable def b__law_family_holds : SM := sSeq (sSet 3 (mCall f_family [] (aCons (mVar 1) (aCons (mVar 2) (aNil))))) (sSeq (sAsg (gTp (gsCons (gNm 4) (gsCons (gNm 5) (gsNil)))) (mFn mkT (aCons (mCall f__law_order [] (aCons (mVar 0) (aCons (m2 ixA (mVar 3) (mC (.int (0)))) (aNil)))) (aCons (m2 gtM (m2 ixA (mVar 3) (mC (.int (0)))) (mC (.int (0)))) (aNil))))) (sSeq (sSet 6 (mCall f_relabelled [] (aCons (mVar 3) (aCons (mVar 4) (aNil))))) (sSeq (sSet 7 (mCall f_near [] (aCons (mVar 6) (aNil)))) (sSeq (sFor (mRange1 (aCons (m2 ixA (mVar 3) (mC (.int (0)))) (aNil))) (gNm 8) (sSeq (sSet 9 (mCall f__law_far [] (aCons (mVar 7) (aCons (m2 ixA (mVar 4) (mVar 8)) (aNil))))) (sSeq (sSet 10 (mComp (([("j", 11)] : List (Str × Nat)).map (·.2)) (mRange1 (aCons (m2 ixA (mVar 3) (mC (.int (0)))) (aNil))) (gNm 11) (tTrue) (mIf (tV (m2 eqM (mVar 11) (mVar 8))) (mC (.int (0))) (mCall f__law_due [] (aCons (mVar 1) (aCons (mVar 2) (aCons (mVar 8) (aCons (mVar 11) (aNil))))))))) (sSeq (sIf (tV (m2 neM (mComp (([("j", 11)] : List (Str × Nat)).map (·.2)) (mRange1 (aCons (m2 ixA (mVar 3) (mC (.int (0)))) (aNil))) (gNm 11) (tTrue) (m2 ixA (mVar 9) (m2 ixA (mVar 4) (mVar 11)))) (mVar 10))) (sSeq (sRet (mC (.bl false))) (sNil)) (sNil)) (sSeq (sSet 5 (mAnd (mVar 5) (m2 ninA (mC .non) (mVar 10)))) (sNil)))))) (sSeq (sRet (mAnd (m2 eqM (mCall f_hangs [] (aCons (mVar 6) (aCons (mRgT1 (m2 ixA (mVar 3) (mC (.int (0))))) (aNil)))) (mVar 5)) (m2 eqM (m2 eqM (mFn fLenA (aCons (mCall f_pieces_of [] (aCons (mVar 6) (aNil))) (aNil))) (mC (.int (1)))) (mVar 5)))) (sNil))))))
noncomputable def f__law_family_holds : List D → M D := mFun 3 12 b__law_family_holds
noncomputable def b__law_least : SM := sSeq (sSet 0 (mDisp (dpCons (mC (.str "ring")) (mFn mkT (aCons (mC (.int (3))) (aNil))) (dpCons (mC (.str "path")) (mFn mkT (aCons (mC (.int (0))) (aNil))) (dpCons (mC (.str "complete")) (mFn mkT (aCons (mC (.int (0))) (aNil))) (dpCons (mC (.str "bipartite")) (mFn mkT (aCons (mC (.int (0))) (aCons (mC (.int (0))) (aNil)))) (dpCons (mC (.str "wheel")) (mFn mkT (aCons (mC (.int (3))) (aNil))) (dpCons (mC (.str "star")) (mFn mkT (aCons (mC (.int (0))) (aNil))) (dpNil))))))))) (sSeq (sRet (mFn fDict (aCons (m2 addM (m1 itemsM (mVar 0)) (mFn mkL (aCons (mFn mkT (aCons (mC (.str "grid")) (aCons (mFn mkT (aCons (mC (.int (1))) (aCons (mC (.int (1))) (aNil)))) (aNil)))) (aCons (mFn mkT (aCons (mC (.str "prism")) (aCons (mFn mkT (aCons (mC (.int (3))) (aNil))) (aNil)))) (aCons (mFn mkT (aCons (mC (.str "moebius")) (aCons (mFn mkT (aCons (mC (.int (2))) (aNil))) (aNil)))) (aCons (mFn mkT (aCons (mC (.str "cube")) (aCons (mFn mkT (aCons (mC (.int (0))) (aNil))) (aNil)))) (aNil))))))) (aNil)))) (sNil))
noncomputable def f__law_least : List D → M D := mFun 0 1 b__law_least
noncomputable def b__law_most : SM := sSeq (sSet 1 (mDisp (dpCons (mC (.str "bipartite")) (mFn mkT (aCons (mC (.int (10))) (aCons (mC (.int (10))) (aNil)))) (dpCons (mC (.str "wheel")) (mFn mkT (aCons (mC (.int (19))) (aNil))) (dpCons (mC (.str "star")) (mFn mkT (aCons (mC (.int (19))) (aNil))) (dpCons (mC (.str "grid")) (mFn mkT (aCons (mC (.int (4))) (aCons (mC (.int (5))) (aNil)))) (dpCons (mC (.str "prism")) (mFn mkT (aCons (mC (.int (10))) (aNil))) (dpCons (mC (.str "moebius")) (mFn mkT (aCons (mC (.int (10))) (aNil))) (dpCons (mC (.str "cube")) (mFn mkT (aCons (mC (.int (4))) (aNil))) (dpNil)))))))))) (sSeq (sRet (mMeth isDct getM (mVar 1) (aCons (mVar 0) (aCons (mFn mkT (aCons (mC (.int (20))) (aNil))) (aNil))))) (sNil))
noncomputable def f__law_most : List D → M D := mFun 1 2 b__law_most
noncomputable def b__law_petersen_holds : SM := sSeq (sSet 1 (mCall f_near [] (aCons (mCall f_relabelled [] (aCons (mCall f_family [] (aCons (mC (.str "petersen")) (aCons (mFn mkT (aNil)) (aNil)))) (aCons (mCall f__law_order [] (aCons (mVar 0) (aCons (mC (.int (10))) (aNil)))) (aNil)))) (aNil)))) (sSeq (sFor (mRange1 (aCons (mC (.int (10))) (aNil))) (gNm 2) (sSeq (sFor (mRange1 (aCons (mVar 2) (aNil))) (gNm 3) (sSeq (sSet 4 (mComp (([("own", 5)] : List (Str × Nat)).map (·.2)) (mSeq (m2 ixA (mVar 1) (mVar 2))) (gNm 5) (tV (m2 inA (mVar 5) (m2 ixA (mVar 1) (mVar 3)))) (mVar 5))) (sSeq (sIf (tV (m2 neM (mFn fLenA (aCons (mVar 4) (aNil))) (mIf (tV (m2 inA (mVar 3) (m2 ixA (mVar 1) (mVar 2)))) (mC (.int (0))) (mC (.int (1)))))) (sSeq (sRet (mC (.bl false))) (sNil)) (sNil)) (sNil)))) (sNil))) (sSeq (sRet (m2 eqM (mComp (([("own", 5)] : List (Str × Nat)).map (·.2)) (mSeq (mVar 1)) (gNm 5) (tV (m2 neM (mFn fLenA (aCons (mVar 5) (aNil))) (mC (.int (3))))) (mVar 5)) (mFn mkL (aNil)))) (sNil)))
noncomputable def f__law_petersen_holds : List D → M D := mFun 1 6 b__law_petersen_holds
noncomputable def b__law_start : SM := sSeq (sSet 1 (mC (.int (7)))) (sSeq (sFor (mSeq (mSl (mVar 0) oNone (oSome (mC (.int (63)))))) (gNm 2) (sSeq (sSet 1 (m2 addM (m2 modM (mFn fInt (aCons (m2 addM (m2 mulA (mVar 1) (mC (.int (48271)))) (mVar 2)) (aNil))) (mC (.int (2147483629)))) (mC (.int (1))))) (sNil))) (sSeq (sRet (mFn mkL (aCons (mComp (([("cell", 2)] : List (Str × Nat)).map (·.2)) (mSeq (mSl (mVar 0) oNone (oSome (mC (.int (63)))))) (gNm 2) (tTrue) (mFn fAbs (aCons (mFn fInt (aCons (mVar 2) (aNil))) (aNil)))) (aCons (mC (.int (0))) (aCons (mC (.int (0))) (aCons (mC (.int (0))) (aCons (mVar 1) (aCons (mC (.int (0))) (aNil))))))))) (sNil)))
noncomputable def f__law_start : List D → M D := mFun 1 3 b__law_start
noncomputable def b_law : SM := sSeq (sSet 1 (mCall f__law_start [] (aCons (mVar 0) (aNil)))) (sSeq (sFor (mSeq (mFn fSorted (aCons (mCall f__law_least [] aNil) (aNil)))) (gNm 2) (sSeq (sAsg (gTp (gsCons (gNm 3) (gsCons (gNm 4) (gsNil)))) (mFn mkT (aCons (m2 ixA (mCall f__law_least [] aNil) (mVar 2)) (aCons (mCall f__law_most [] (aCons (mVar 2) (aNil))) (aNil))))) (sSeq (sSet 5 (mFn fTuple (aCons (mComp (([("k", 6)] : List (Str × Nat)).map (·.2)) (mRange1 (aCons (mFn fLenA (aCons (mVar 3) (aNil))) (aNil))) (gNm 6) (tTrue) (m2 addM (m2 ixA (mVar 3) (mVar 6)) (mCall f__law_draw [] (aCons (mVar 1) (aCons (m2 addM (m2 subM (m2 ixA (mVar 4) (mVar 6)) (m2 ixA (mVar 3) (mVar 6))) (mC (.int (1)))) (aNil)))))) (aNil)))) (sSeq (sIf (tNt (tTr (mCall f__law_family_holds [] (aCons (mVar 1) (aCons (mVar 2) (aCons (mVar 5) (aNil))))))) (sSeq (sRet (mC (.bl false))) (sNil)) (sNil)) (sNil))))) (sSeq (sRet (mCall f__law_petersen_holds [] (aCons (mVar 1) (aNil)))) (sNil)))
noncomputable def f_law : List D → M D := mFun 1 7 b_law
/-! ### what is known of the module -/
abbrev FnD (K : PySem.W.Frag) (x : Str) (st : Stmt) (dvs : List V) (f : Addr) (fd : FuncData) : Prop := FunD K x x (defArgs st) (defBody st) (defScope st) dvs [] f fd
structure Fx (w : World) (K : PySem.W.Frag) (mg : Str → Option Value) : Prop where
  d__law_draw : ∃ a fd, FnD K "_law_draw" st__law_draw [] a fd ∧ mg "_law_draw" = some (.ref a)
  d__law_digits : ∃ a fd, FnD K "_law_digits" st__law_digits [] a fd ∧ mg "_law_digits" = some (.ref a)
  d__law_round : ∃ a fd, FnD K "_law_round" st__law_round [] a fd ∧ mg "_law_round" = some (.ref a)
  d__law_due : ∃ a fd, FnD K "_law_due" st__law_due [] a fd ∧ mg "_law_due" = some (.ref a)
  d__law_far : ∃ a fd, FnD K "_law_far" st__law_far [] a fd ∧ mg "_law_far" = some (.ref a)
  d__law_order : ∃ a fd, FnD K "_law_order" st__law_order [] a fd ∧ mg "_law_order" = some (.ref a)
  d_edge_in : ∃ a fd, FnD K "edge_in" st_edge_in [] a fd ∧ mg "edge_in" = some (.ref a)
  d_graph_in : ∃ a fd, FnD K "graph_in" st_graph_in [] a fd ∧ mg "graph_in" = some (.ref a)
  d_all_pairs : ∃ a fd, FnD K "all_pairs" st_all_pairs [] a fd ∧ mg "all_pairs" = some (.ref a)
  d_cube_pairs : ∃ a fd, FnD K "cube_pairs" st_cube_pairs [] a fd ∧ mg "cube_pairs" = some (.ref a)
  d_grid_pairs : ∃ a fd, FnD K "grid_pairs" st_grid_pairs [] a fd ∧ mg "grid_pairs" = some (.ref a)
  d_ring_pairs : ∃ a fd, FnD K "ring_pairs" st_ring_pairs [] a fd ∧ mg "ring_pairs" = some (.ref a)
  d_named_pairs : ∃ a fd, FnD K "named_pairs" st_named_pairs [] a fd ∧ mg "named_pairs" = some (.ref a)
  d_path_pairs : ∃ a fd, FnD K "path_pairs" st_path_pairs [] a fd ∧ mg "path_pairs" = some (.ref a)
  d_points_of : ∃ a fd, FnD K "points_of" st_points_of [] a fd ∧ mg "points_of" = some (.ref a)
  d_sided_pairs : ∃ a fd, FnD K "sided_pairs" st_sided_pairs [] a fd ∧ mg "sided_pairs" = some (.ref a)
  d_pairs_of : ∃ a fd, FnD K "pairs_of" st_pairs_of [] a fd ∧ mg "pairs_of" = some (.ref a)
  d_family_in : ∃ a fd, FnD K "family_in" st_family_in [] a fd ∧ mg "family_in" = some (.ref a)
  d_is_integer : ∃ a fd, FnD K "is_integer" st_is_integer [] a fd ∧ mg "is_integer" = some (.ref a)
  d_family : ∃ a fd, FnD K "family" st_family [] a fd ∧ mg "family" = some (.ref a)
  d_are_points : ∃ a fd, FnD K "are_points" st_are_points [] a fd ∧ mg "are_points" = some (.ref a)
  d_is_edge : ∃ a fd, FnD K "is_edge" st_is_edge [] a fd ∧ mg "is_edge" = some (.ref a)
  d_is_graph : ∃ a fd, FnD K "is_graph" st_is_graph [] a fd ∧ mg "is_graph" = some (.ref a)
  d_check_graph : ∃ a fd, FnD K "check_graph" st_check_graph [V.str "graph"] a fd ∧ mg "check_graph" = some (.ref a)
  d_near_in : ∃ a fd, FnD K "near_in" st_near_in [] a fd ∧ mg "near_in" = some (.ref a)
  d_reached_in : ∃ a fd, FnD K "reached_in" st_reached_in [] a fd ∧ mg "reached_in" = some (.ref a)
  d_pieces_among : ∃ a fd, FnD K "pieces_among" st_pieces_among [] a fd ∧ mg "pieces_among" = some (.ref a)
  d_hangs_in : ∃ a fd, FnD K "hangs_in" st_hangs_in [] a fd ∧ mg "hangs_in" = some (.ref a)
  d_hangs : ∃ a fd, FnD K "hangs" st_hangs [] a fd ∧ mg "hangs" = some (.ref a)
  d_near : ∃ a fd, FnD K "near" st_near [] a fd ∧ mg "near" = some (.ref a)
  d_pieces_in : ∃ a fd, FnD K "pieces_in" st_pieces_in [] a fd ∧ mg "pieces_in" = some (.ref a)
  d_pieces_of : ∃ a fd, FnD K "pieces_of" st_pieces_of [] a fd ∧ mg "pieces_of" = some (.ref a)
  d_relabelled_in : ∃ a fd, FnD K "relabelled_in" st_relabelled_in [] a fd ∧ mg "relabelled_in" = some (.ref a)
  d_relabelled : ∃ a fd, FnD K "relabelled" st_relabelled [] a fd ∧ mg "relabelled" = some (.ref a)
  d__law_family_holds : ∃ a fd, FnD K "_law_family_holds" st__law_family_holds [] a fd ∧ mg "_law_family_holds" = some (.ref a)
  d__law_least : ∃ a fd, FnD K "_law_least" st__law_least [] a fd ∧ mg "_law_least" = some (.ref a)
  d__law_most : ∃ a fd, FnD K "_law_most" st__law_most [] a fd ∧ mg "_law_most" = some (.ref a)
  d__law_petersen_holds : ∃ a fd, FnD K "_law_petersen_holds" st__law_petersen_holds [] a fd ∧ mg "_law_petersen_holds" = some (.ref a)
  d__law_start : ∃ a fd, FnD K "_law_start" st__law_start [] a fd ∧ mg "_law_start" = some (.ref a)
  d_law : ∃ a fd, FnD K "law" st_law [] a fd ∧ mg "law" = some (.ref a)
  n_abs : mg "abs" = none
  n_all : mg "all" = none
  n_bool : mg "bool" = none
  n_dict : mg "dict" = none
  n_int : mg "int" = none
  n_isinstance : mg "isinstance" = none
  n_len : mg "len" = none
  n_list : mg "list" = none
  n_min : mg "min" = none
  n_range : mg "range" = none
  n_sorted : mg "sorted" = none
  n_str : mg "str" = none
  n_tuple : mg "tuple" = none
  n_zip : mg "zip" = none
  i_MAX_POINTS : ∃ t, mg "MAX_POINTS" = some (.int (20) t)
  t_LEAST : ∃ a, mg "LEAST" = some (.ref a) ∧ KTab K w a T_LEAST
/-! ### each def keeps to its machine -/
section
variable {P : Program} {w : World} {K : PySem.W.Frag} {mg : Str → Option Value} {base : Heap}
theorem r__law_draw (Z : Fx w K mg) {qual : Str} {f : Addr} {cdv : Value} {A : Around} {outer : List PySem.Env} {s : Shared} {H : Hp} (bd : Bd 0 (cxOf CX0 P w K mg base N__law_draw qual (defScope st__law_draw) f cdv A outer s H E0).nox) :
    PSs (cxOf CX0 P w K mg base N__law_draw qual (defScope st__law_draw) f cdv A outer s H E0).nox (defBody st__law_draw) (lS w K b__law_draw) := by
  obtain ⟨G, hr, own⟩ := bd
  exact ss_cons (s_if ((w_and (t_cmp (o_eq G) (e_ix (ix_any G) (e_var 0) (e_int)) (e_int)) (w_and1 (t_cmp (o_lt G) (e_ix (ix_any G) (e_var 0) (e_int)) (e_fn (c_lenA) Z.n_len (a_cons (e_ix (ix_any G) (e_var 0) (e_int)) (a_nil)))))).pt) (ss_cons (s_asg (g_tup G.calm (gs_cons (g_sub (e_var 0) (e_int) (st_any G)) (gs_cons (g_sub (e_var 0) (e_int) (st_any G)) (gs_cons (g_sub (e_var 0) (e_int) (st_any G)) (gs_nil)))) (gl_cons (gl_cons (gl_cons (gl_nil))))) (e_tup (a_cons (e_ix (ix_any G) (e_ix (ix_any G) (e_var 0) (e_int)) (e_ix (ix_any G) (e_var 0) (e_int))) (a_cons (e_int) (a_cons (e_op o_add (e_ix (ix_any G) (e_var 0) (e_int)) (e_int)) (a_nil)))))) (ss_nil)) (ss_nil)) (ss_cons (s_if (t_cmp (o_gt G) (e_ix (ix_any G) (e_var 0) (e_int)) (e_int)) (ss_cons (s_set 2 sc__law_draw.nd (e_op o_mod (e_ty (c_int) Z.n_int (a_cons (e_ix (ix_any G) (e_var 0) (e_int)) (a_nil))) (e_var 1))) (ss_cons (s_asg (g_sub (e_var 0) (e_int) (st_any G)) (e_op o_fdiv (e_ix (ix_any G) (e_var 0) (e_int)) (e_var 1))) (ss_cons (s_asg (g_sub (e_var 0) (e_int) (st_any G)) (e_if (t_cmp (o_gt G) (e_ix (ix_any G) (e_var 0) (e_int)) (e_int)) (e_op o_sub (e_ix (ix_any G) (e_var 0) (e_int)) (e_int)) (e_int))) (ss_cons (s_ret (e_var 2)) (ss_nil))))) (ss_nil)) (ss_cons (s_asg (g_sub (e_var 0) (e_int) (st_any G)) (e_op o_add (e_ix (ix_any G) (e_var 0) (e_int)) (e_int))) (ss_cons (s_asg (g_sub (e_var 0) (e_int) (st_any G)) (e_op o_mod (e_ty (c_int) Z.n_int (a_cons (e_op o_add (e_op o_add (e_op o_mulA (e_ix (ix_any G) (e_var 0) (e_int)) (e_int)) (e_op o_mulA (e_op o_mulA (e_ix (ix_any G) (e_var 0) (e_int)) (e_ix (ix_any G) (e_var 0) (e_int))) (e_int))) (e_int)) (a_nil))) (e_int))) (ss_cons (s_ret (e_op o_mod (e_ty (c_int) Z.n_int (a_cons (e_op o_fdiv (e_ix (ix_any G) (e_var 0) (e_int)) (e_int)) (a_nil))) (e_var 1))) (ss_nil)))))
theorem r__law_digits (Z : Fx w K mg) {qual : Str} {f : Addr} {cdv : Value} {A : Around} {outer : List PySem.Env} {s : Shared} {H : Hp} (bd : Bd 0 (cxOf CX0 P w K mg base N__law_digits qual (defScope st__law_digits) f cdv A outer s H E0).nox) :
    PSs (cxOf CX0 P w K mg base N__law_digits qual (defScope st__law_digits) f cdv A outer s H E0).nox (defBody st__law_digits) (lS w K b__law_digits) := by
  obtain ⟨G, hr, own⟩ := bd
  exact ss_cons (s_set 2 sc__law_digits.nd (e_int)) (ss_cons (s_for own G.calm (i_range1 Z.n_range (a_cons (e_int) (a_nil))) (g_name 3 sc__law_digits.nd) (ss_cons (s_set 2 sc__law_digits.nd (e_op o_add (e_var 2) (e_if (t_cmp (o_ne G) (e_op o_sub (e_var 0) (e_op o_mulA (e_op o_fdiv (e_var 0) (e_int)) (e_int))) (e_op o_sub (e_var 1) (e_op o_mulA (e_op o_fdiv (e_var 1) (e_int)) (e_int)))) (e_int) (e_int)))) (ss_cons (s_par 0 1 G.calm sc__law_digits.nd (e_op o_fdiv (e_var 0) (e_int)) (e_op o_fdiv (e_var 1) (e_int))) (ss_nil)))) (ss_cons (s_ret (e_var 2)) (ss_nil)))
theorem r__law_round (Z : Fx w K mg) {qual : Str} {f : Addr} {cdv : Value} {A : Around} {outer : List PySem.Env} {s : Shared} {H : Hp} (bd : Bd 0 (cxOf CX0 P w K mg base N__law_round qual (defScope st__law_round) f cdv A outer s H E0).nox) :
    PSs (cxOf CX0 P w K mg base N__law_round qual (defScope st__law_round) f cdv A outer s H E0).nox (defBody st__law_round) (lS w K b__law_round) := by
  obtain ⟨G, hr, own⟩ := bd
  exact ss_cons (s_set 3 sc__law_round.nd (e_fn (c_abs) Z.n_abs (a_cons (e_op o_sub (e_var 1) (e_var 2)) (a_nil)))) (ss_cons (s_ret (e_fn (c_minA G) Z.n_min (a_cons (e_lst (a_cons (e_var 3) (a_cons (e_op o_sub (e_var 0) (e_var 3)) (a_nil)))) (a_nil)))) (ss_nil))
theorem r__law_due (Z : Fx w K mg) (c__law_digits : Cal P w K mg base 1 "_law_digits" [] f__law_digits) (c__law_round : Cal P w K mg base 1 "_law_round" [] f__law_round) {qual : Str} {f : Addr} {cdv : Value} {A : Around} {outer : List PySem.Env} {s : Shared} {H : Hp} (bd : Bd 1 (cxOf CX0 P w K mg base N__law_due qual (defScope st__law_due) f cdv A outer s H E0).nox) :
    PSs (cxOf CX0 P w K mg base N__law_due qual (defScope st__law_due) f cdv A outer s H E0).nox (defBody st__law_due) (lS w K b__law_due) := by
  obtain ⟨G, hr, own⟩ := bd
  exact ss_cons (s_set 4 sc__law_due.nd (e_ix (ix_any G) (e_var 1) (e_int))) (ss_cons (s_if (t_cmp (o_eq G) (e_var 0) (e_str)) (ss_cons (s_ret (e_cal c__law_round G (hr.mono (by decide)) (a_cons (e_var 4) (a_cons (e_var 2) (a_cons (e_var 3) (a_nil)))))) (ss_nil)) (ss_nil)) (ss_cons (s_if (t_cmp (o_eq G) (e_var 0) (e_str)) (ss_cons (s_ret (e_fn (c_abs) Z.n_abs (a_cons (e_op o_sub (e_var 2) (e_var 3)) (a_nil)))) (ss_nil)) (ss_nil)) (ss_cons (s_if (t_cmp (o_eq G) (e_var 0) (e_str)) (ss_cons (s_ret (e_int)) (ss_nil)) (ss_nil)) (ss_cons (s_if (t_cmp (o_eq G) (e_var 0) (e_str)) (ss_cons (s_ret (e_if (t_cmp (o_ne G) (e_cmp (o_lt G) (e_var 2) (e_var 4)) (e_cmp (o_lt G) (e_var 3) (e_var 4))) (e_int) (e_if (t_cmp (o_gt G) (e_fn (c_minA G) Z.n_min (a_cons (e_var 1) (a_nil))) (e_int)) (e_int) (e_non)))) (ss_nil)) (ss_nil)) (ss_cons (s_if (t_cmp (o_in G) (e_var 0) (e_lst (a_cons (e_str) (a_cons (e_str) (a_nil))))) (ss_cons (s_ret (e_if ((w_or (t_cmp (o_in G) (e_var 4) (e_lst (a_cons (e_var 2) (a_cons (e_var 3) (a_nil))))) (w_or1 ((w_and (t_cmp (o_eq G) (e_var 0) (e_str)) (w_and1 (t_cmp (o_eq G) (e_cal c__law_round G (hr.mono (by decide)) (a_cons (e_var 4) (a_cons (e_var 2) (a_cons (e_var 3) (a_nil))))) (e_int)))).pt))).pt) (e_int) (e_int))) (ss_nil)) (ss_nil)) (ss_cons (s_if (t_cmp (o_eq G) (e_var 0) (e_str)) (ss_cons (s_set 5 sc__law_due.nd (e_ix (ix_any G) (e_var 1) (e_int))) (ss_cons (s_ret (e_op o_add (e_fn (c_abs) Z.n_abs (a_cons (e_op o_sub (e_op o_fdiv (e_var 2) (e_var 5)) (e_op o_fdiv (e_var 3) (e_var 5))) (a_nil))) (e_fn (c_abs) Z.n_abs (a_cons (e_op o_sub (e_op o_sub (e_var 2) (e_op o_mulA (e_op o_fdiv (e_var 2) (e_var 5)) (e_var 5))) (e_op o_sub (e_var 3) (e_op o_mulA (e_op o_fdiv (e_var 3) (e_var 5)) (e_var 5)))) (a_nil))))) (ss_nil))) (ss_nil)) (ss_cons (s_if (t_cmp (o_eq G) (e_var 0) (e_str)) (ss_cons (s_ret (e_op o_add (e_cal c__law_round G (hr.mono (by decide)) (a_cons (e_var 4) (a_cons (e_op o_sub (e_var 2) (e_op o_mulA (e_op o_fdiv (e_var 2) (e_var 4)) (e_var 4))) (a_cons (e_op o_sub (e_var 3) (e_op o_mulA (e_op o_fdiv (e_var 3) (e_var 4)) (e_var 4))) (a_nil))))) (e_if (t_cmp (o_ne G) (e_op o_fdiv (e_var 2) (e_var 4)) (e_op o_fdiv (e_var 3) (e_var 4))) (e_int) (e_int)))) (ss_nil)) (ss_nil)) (ss_cons (s_if (t_cmp (o_eq G) (e_var 0) (e_str)) (ss_cons (s_set 6 sc__law_due.nd (e_cal c__law_round G (hr.mono (by decide)) (a_cons (e_op o_mulA (e_int) (e_var 4)) (a_cons (e_var 2) (a_cons (e_var 3) (a_nil)))))) (ss_cons (s_ret (e_fn (c_minA G) Z.n_min (a_cons (e_lst (a_cons (e_var 6) (a_cons (e_op o_add (e_op o_sub (e_var 4) (e_var 6)) (e_int)) (a_nil)))) (a_nil)))) (ss_nil))) (ss_nil)) (ss_cons (s_ret (e_cal c__law_digits G (hr.mono (by decide)) (a_cons (e_var 2) (a_cons (e_var 3) (a_nil))))) (ss_nil))))))))))
theorem r__law_far (Z : Fx w K mg) {qual : Str} {f : Addr} {cdv : Value} {A : Around} {outer : List PySem.Env} {s : Shared} {H : Hp} (bd : Bd 0 (cxOf CX0 P w K mg base N__law_far qual (defScope st__law_far) f cdv A outer s H E0).nox) :
    PSs (cxOf CX0 P w K mg base N__law_far qual (defScope st__law_far) f cdv A outer s H E0).nox (defBody st__law_far) (lS w K b__law_far) := by
  obtain ⟨G, hr, own⟩ := bd
  exact ss_cons (s_asg (g_tup G.calm (gs_cons (g_name 2 sc__law_far.nd) (gs_cons (g_name 3 sc__law_far.nd) (gs_nil))) (gl_cons (gl_cons (gl_nil)))) (e_tup (a_cons (e_dispX G (px_cons (e_var 1) (e_int) (px_nil))) (a_cons (e_lst (a_cons (e_var 1) (a_nil))) (a_nil))))) (ss_cons (s_for own G.calm (i_range1 Z.n_range (a_cons (e_fn (c_lenA) Z.n_len (a_cons (e_var 0) (a_nil))) (a_nil))) (g_name 4 sc__law_far.nd) (ss_cons (s_set 5 sc__law_far.nd (e_lst (a_nil))) (ss_cons (s_for own G.calm (i_seq (e_var 3)) (g_name 6 sc__law_far.nd) (ss_cons (s_expr (e_meth m_extend (e_var 5) (a_cons (e_comp G sc__law_far.nd [("one", 7)] (i_seq (e_ix (ix_any G) (e_var 0) (e_var 6))) (blkOk_by (by kernel_rfl)) (fun _ _ _ _ _ => g_name 7 sc__law_far.nd) (fun _ _ _ _ _ => ts_one ((w_and (t_cmp (o_nin G.blk) (e_var 7) (e_var 2)) (w_and1 (t_cmp (o_nin G.blk) (e_var 7) (e_var 5)))).pt)) (fun _ _ _ _ _ => e_var 7)) (a_nil)))) (ss_nil))) (ss_cons (s_for own G.calm (i_seq (e_var 5)) (g_name 6 sc__law_far.nd) (ss_cons (s_asg (g_sub (e_var 2) (e_var 6) (st_any G)) (e_op o_add (e_var 4) (e_int))) (ss_nil))) (ss_cons (s_set 3 sc__law_far.nd (e_var 5)) (ss_nil)))))) (ss_cons (s_ret (e_comp G sc__law_far.nd [("own", 6)] (i_range1 Z.n_range (a_cons (e_fn (c_lenA) Z.n_len (a_cons (e_var 0) (a_nil))) (a_nil))) (blkOk_by (by kernel_rfl)) (fun _ _ _ _ _ => g_name 6 sc__law_far.nd) (fun _ _ _ _ _ => ts_nil) (fun _ _ _ _ _ => e_meth (m_get G.blk) (e_var 2) (a_cons (e_var 6) (a_cons (e_non) (a_nil)))))) (ss_nil)))
theorem r__law_order (Z : Fx w K mg) (c__law_draw : Cal P w K mg base 1 "_law_draw" [] f__law_draw) {qual : Str} {f : Addr} {cdv : Value} {A : Around} {outer : List PySem.Env} {s : Shared} {H : Hp} (bd : Bd 1 (cxOf CX0 P w K mg base N__law_order qual (defScope st__law_order) f cdv A outer s H E0).nox) :
    PSs (cxOf CX0 P w K mg base N__law_order qual (defScope st__law_order) f cdv A outer s H E0).nox (defBody st__law_order) (lS w K b__law_order) := by
  obtain ⟨G, hr, own⟩ := bd
  exact ss_cons (s_par 2 3 G.calm sc__law_order.nd (e_listRg1 G Z.n_list Z.n_range (e_var 1)) (e_lst (a_nil))) (ss_cons (s_for own G.calm (i_range1 Z.n_range (a_cons (e_var 1) (a_nil))) (g_name 4 sc__law_order.nd) (ss_cons (s_expr (e_meth m_append (e_var 3) (a_cons (e_meth (m_pop G) (e_var 2) (a_cons (e_cal c__law_draw G (hr.mono (by decide)) (a_cons (e_var 0) (a_cons (e_fn (c_lenA) Z.n_len (a_cons (e_var 2) (a_nil))) (a_nil)))) (a_nil))) (a_nil)))) (ss_nil))) (ss_cons (s_ret (e_ty (c_tuple) Z.n_tuple (a_cons (e_var 3) (a_nil)))) (ss_nil)))
theorem r_edge_in (Z : Fx w K mg) {qual : Str} {f : Addr} {cdv : Value} {A : Around} {outer : List PySem.Env} {s : Shared} {H : Hp} (bd : Bd 0 (cxOf CX0 P w K mg base N_edge_in qual (defScope st_edge_in) f cdv A outer s H E0).nox) :
    PSs (cxOf CX0 P w K mg base N_edge_in qual (defScope st_edge_in) f cdv A outer s H E0).nox (defBody st_edge_in) (lS w K b_edge_in) := by
  obtain ⟨G, hr, own⟩ := bd
  exact ss_cons (s_ret (e_if (t_cmp (o_lt G) (e_var 0) (e_var 1)) (e_tup (a_cons (e_var 0) (a_cons (e_var 1) (a_nil)))) (e_tup (a_cons (e_var 1) (a_cons (e_var 0) (a_nil)))))) (ss_nil)
theorem r_graph_in (Z : Fx w K mg) (c_edge_in : Cal P w K mg base 1 "edge_in" [] f_edge_in) {qual : Str} {f : Addr} {cdv : Value} {A : Around} {outer : List PySem.Env} {s : Shared} {H : Hp} (bd : Bd 1 (cxOf CX0 P w K mg base N_graph_in qual (defScope st_graph_in) f cdv A outer s H E0).nox) :
    PSs (cxOf CX0 P w K mg base N_graph_in qual (defScope st_graph_in) f cdv A outer s H E0).nox (defBody st_graph_in) (lS w K b_graph_in) := by
  obtain ⟨G, hr, own⟩ := bd
  exact ss_cons (s_ret (e_tup (a_cons (e_var 0) (a_cons (e_ty (c_tuple) Z.n_tuple (a_cons (e_fn (c_sorted G) Z.n_sorted (a_cons (e_dcomp G sc_graph_in.nd [("one", 2), ("other", 3)] (i_seq (e_var 1)) (blkOk_by (by kernel_rfl)) (fun _ _ _ _ _ => g_tup G.blk.calm (gs_cons (g_name 2 sc_graph_in.nd) (gs_cons (g_name 3 sc_graph_in.nd) (gs_nil))) (gl_cons (gl_cons (gl_nil)))) (fun _ _ _ _ _ => ts_nil) (fun _ _ _ _ _ => e_cal c_edge_in G.blk (hr.mono (by decide)) (a_cons (e_var 2) (a_cons (e_var 3) (a_nil)))) (fun _ _ _ _ _ => e_bl)) (a_nil))) (a_nil))) (a_nil))))) (ss_nil)
theorem r_all_pairs (Z : Fx w K mg) {qual : Str} {f : Addr} {cdv : Value} {A : Around} {outer : List PySem.Env} {s : Shared} {H : Hp} (bd : Bd 0 (cxOf CX0 P w K mg base N_all_pairs qual (defScope st_all_pairs) f cdv A outer s H E0).nox) :
    PSs (cxOf CX0 P w K mg base N_all_pairs qual (defScope st_all_pairs) f cdv A outer s H E0).nox (defBody st_all_pairs) (lS w K b_all_pairs) := by
  obtain ⟨G, hr, own⟩ := bd
  exact ss_cons (s_ret (e_comp2 G sc_all_pairs.nd [("other", 1), ("one", 2)] [2] (i_range1 Z.n_range (a_cons (e_var 0) (a_nil))) (blkOk_by (by kernel_rfl)) (fun _ _ _ _ _ => g_name 1 sc_all_pairs.nd) (fun _ _ _ _ _ => ts_nil) (fun _ _ _ _ _ => i_range1 Z.n_range (a_cons (e_var 1) (a_nil))) (fun _ _ _ _ _ => g_name 2 sc_all_pairs.nd) (fun _ _ _ _ _ => ts_nil) (fun _ _ _ _ _ => e_tup (a_cons (e_var 2) (a_cons (e_var 1) (a_nil)))))) (ss_nil)
theorem r_cube_pairs (Z : Fx w K mg) {qual : Str} {f : Addr} {cdv : Value} {A : Around} {outer : List PySem.Env} {s : Shared} {H : Hp} (bd : Bd 0 (cxOf CX0 P w K mg base N_cube_pairs qual (defScope st_cube_pairs) f cdv A outer s H E0).nox) :
    PSs (cxOf CX0 P w K mg base N_cube_pairs qual (defScope st_cube_pairs) f cdv A outer s H E0).nox (defBody st_cube_pairs) (lS w K b_cube_pairs) := by
  obtain ⟨G, hr, own⟩ := bd
  exact ss_cons (s_set 1 sc_cube_pairs.nd (e_comp G sc_cube_pairs.nd [("at", 2)] (i_range1 Z.n_range (a_cons (e_var 0) (a_nil))) (blkOk_by (by kernel_rfl)) (fun _ _ _ _ _ => g_name 2 sc_cube_pairs.nd) (fun _ _ _ _ _ => ts_nil) (fun _ _ _ _ _ => e_op o_shl (e_int) (e_var 2)))) (ss_cons (s_ret (e_comp2 G sc_cube_pairs.nd [("own", 3), ("power", 4)] [4] (i_range1 Z.n_range (a_cons (e_op o_shl (e_int) (e_var 0)) (a_nil))) (blkOk_by (by kernel_rfl)) (fun _ _ _ _ _ => g_name 3 sc_cube_pairs.nd) (fun _ _ _ _ _ => ts_nil) (fun _ _ _ _ _ => i_seq (e_var 1)) (fun _ _ _ _ _ => g_name 4 sc_cube_pairs.nd) (fun _ _ _ _ _ => ts_one (t_cmp (o_eq G.blk) (e_op o_mod (e_op o_fdiv (e_var 3) (e_var 4)) (e_int)) (e_int))) (fun _ _ _ _ _ => e_tup (a_cons (e_var 3) (a_cons (e_op o_add (e_var 3) (e_var 4)) (a_nil)))))) (ss_nil))
theorem r_grid_pairs (Z : Fx w K mg) {qual : Str} {f : Addr} {cdv : Value} {A : Around} {outer : List PySem.Env} {s : Shared} {H : Hp} (bd : Bd 0 (cxOf CX0 P w K mg base N_grid_pairs qual (defScope st_grid_pairs) f cdv A outer s H E0).nox) :
    PSs (cxOf CX0 P w K mg base N_grid_pairs qual (defScope st_grid_pairs) f cdv A outer s H E0).nox (defBody st_grid_pairs) (lS w K b_grid_pairs) := by
  obtain ⟨G, hr, own⟩ := bd
  exact ss_cons (s_setComp2 G sc_grid_pairs.nd 2 [("row", 3), ("at", 4)] [4] (i_range1 Z.n_range (a_cons (e_var 0) (a_nil))) (blkOk_by (by kernel_rfl)) (fun _ _ _ _ _ => g_name 3 sc_grid_pairs.nd) (fun _ _ _ _ _ => ts_nil) (fun _ _ _ _ _ => i_range1 Z.n_range (a_cons (e_op o_sub (e_var 1) (e_int)) (a_nil))) (fun _ _ _ _ _ => g_name 4 sc_grid_pairs.nd) (fun _ _ _ _ _ => ts_nil) (fun _ _ _ _ _ => e_tup (a_cons (e_op o_add (e_op o_mulA (e_var 1) (e_var 3)) (e_var 4)) (a_cons (e_op o_add (e_op o_add (e_op o_mulA (e_var 1) (e_var 3)) (e_var 4)) (e_int)) (a_nil))))) (ss_cons (s_ret (e_op o_add (e_var 2) (e_comp2 G sc_grid_pairs.nd [("row", 3), ("at", 4)] [4] (i_range1 Z.n_range (a_cons (e_op o_sub (e_var 0) (e_int)) (a_nil))) (blkOk_by (by kernel_rfl)) (fun _ _ _ _ _ => g_name 3 sc_grid_pairs.nd) (fun _ _ _ _ _ => ts_nil) (fun _ _ _ _ _ => i_range1 Z.n_range (a_cons (e_var 1) (a_nil))) (fun _ _ _ _ _ => g_name 4 sc_grid_pairs.nd) (fun _ _ _ _ _ => ts_nil) (fun _ _ _ _ _ => e_tup (a_cons (e_op o_add (e_op o_mulA (e_var 1) (e_var 3)) (e_var 4)) (a_cons (e_op o_add (e_op o_add (e_op o_mulA (e_var 1) (e_var 3)) (e_var 1)) (e_var 4)) (a_nil))))))) (ss_nil))
theorem r_ring_pairs (Z : Fx w K mg) {qual : Str} {f : Addr} {cdv : Value} {A : Around} {outer : List PySem.Env} {s : Shared} {H : Hp} (bd : Bd 0 (cxOf CX0 P w K mg base N_ring_pairs qual (defScope st_ring_pairs) f cdv A outer s H E0).nox) :
    PSs (cxOf CX0 P w K mg base N_ring_pairs qual (defScope st_ring_pairs) f cdv A outer s H E0).nox (defBody st_ring_pairs) (lS w K b_ring_pairs) := by
  obtain ⟨G, hr, own⟩ := bd
  exact ss_cons (s_ret (e_comp G sc_ring_pairs.nd [("at", 2)] (i_range1 Z.n_range (a_cons (e_var 1) (a_nil))) (blkOk_by (by kernel_rfl)) (fun _ _ _ _ _ => g_name 2 sc_ring_pairs.nd) (fun _ _ _ _ _ => ts_nil) (fun _ _ _ _ _ => e_tup (a_cons (e_op o_add (e_var 0) (e_var 2)) (a_cons (e_op o_add (e_var 0) (e_op o_mod (e_op o_add (e_var 2) (e_int)) (e_var 1))) (a_nil)))))) (ss_nil)
theorem r_named_pairs (Z : Fx w K mg) (c_ring_pairs : Cal P w K mg base 1 "ring_pairs" [] f_ring_pairs) {qual : Str} {f : Addr} {cdv : Value} {A : Around} {outer : List PySem.Env} {s : Shared} {H : Hp} (bd : Bd 1 (cxOf CX0 P w K mg base N_named_pairs qual (defScope st_named_pairs) f cdv A outer s H E0).nox) :
    PSs (cxOf CX0 P w K mg base N_named_pairs qual (defScope st_named_pairs) f cdv A outer s H E0).nox (defBody st_named_pairs) (lS w K b_named_pairs) := by
  obtain ⟨G, hr, own⟩ := bd
  exact ss_cons (s_if (t_cmp (o_eq G) (e_var 0) (e_str)) (ss_cons (s_setComp G sc_named_pairs.nd 1 [("at", 2)] (i_range1 Z.n_range (a_cons (e_int) (a_nil))) (blkOk_by (by kernel_rfl)) (fun _ _ _ _ _ => g_name 2 sc_named_pairs.nd) (fun _ _ _ _ _ => ts_nil) (fun _ _ _ _ _ => e_tup (a_cons (e_op o_add (e_int) (e_var 2)) (a_cons (e_op o_add (e_int) (e_op o_mod (e_op o_add (e_var 2) (e_int)) (e_int))) (a_nil))))) (ss_cons (s_ret (e_op o_add (e_op o_add (e_cal c_ring_pairs G (hr.mono (by decide)) (a_cons (e_int) (a_cons (e_int) (a_nil)))) (e_var 1)) (e_comp G sc_named_pairs.nd [("at", 2)] (i_range1 Z.n_range (a_cons (e_int) (a_nil))) (blkOk_by (by kernel_rfl)) (fun _ _ _ _ _ => g_name 2 sc_named_pairs.nd) (fun _ _ _ _ _ => ts_nil) (fun _ _ _ _ _ => e_tup (a_cons (e_var 2) (a_cons (e_op o_add (e_int) (e_var 2)) (a_nil))))))) (ss_nil))) (ss_nil)) (ss_cons (s_if (t_cmp (o_eq G) (e_var 0) (e_str)) (ss_cons (s_ret (e_lst (a_cons (e_tup (a_cons (e_int) (a_cons (e_int) (a_nil)))) (a_cons (e_tup (a_cons (e_int) (a_cons (e_int) (a_nil)))) (a_cons (e_tup (a_cons (e_int) (a_cons (e_int) (a_nil)))) (a_cons (e_tup (a_cons (e_int) (a_cons (e_int) (a_nil)))) (a_cons (e_tup (a_cons (e_int) (a_cons (e_int) (a_nil)))) (a_nil)))))))) (ss_nil)) (ss_nil)) (ss_cons (s_if (t_cmp (o_eq G) (e_var 0) (e_str)) (ss_cons (s_ret (e_lst (a_cons (e_tup (a_cons (e_int) (a_cons (e_int) (a_nil)))) (a_cons (e_tup (a_cons (e_int) (a_cons (e_int) (a_nil)))) (a_cons (e_tup (a_cons (e_int) (a_cons (e_int) (a_nil)))) (a_cons (e_tup (a_cons (e_int) (a_cons (e_int) (a_nil)))) (a_cons (e_tup (a_cons (e_int) (a_cons (e_int) (a_nil)))) (a_cons (e_tup (a_cons (e_int) (a_cons (e_int) (a_nil)))) (a_nil))))))))) (ss_nil)) (ss_nil)) (ss_cons (s_ret (e_lst (a_cons (e_tup (a_cons (e_int) (a_cons (e_int) (a_nil)))) (a_cons (e_tup (a_cons (e_int) (a_cons (e_int) (a_nil)))) (a_cons (e_tup (a_cons (e_int) (a_cons (e_int) (a_nil)))) (a_cons (e_tup (a_cons (e_int) (a_cons (e_int) (a_nil)))) (a_cons (e_tup (a_cons (e_int) (a_cons (e_int) (a_nil)))) (a_cons (e_tup (a_cons (e_int) (a_cons (e_int) (a_nil)))) (a_nil))))))))) (ss_nil))))
theorem r_path_pairs (Z : Fx w K mg) {qual : Str} {f : Addr} {cdv : Value} {A : Around} {outer : List PySem.Env} {s : Shared} {H : Hp} (bd : Bd 0 (cxOf CX0 P w K mg base N_path_pairs qual (defScope st_path_pairs) f cdv A outer s H E0).nox) :
    PSs (cxOf CX0 P w K mg base N_path_pairs qual (defScope st_path_pairs) f cdv A outer s H E0).nox (defBody st_path_pairs) (lS w K b_path_pairs) := by
  obtain ⟨G, hr, own⟩ := bd
  exact ss_cons (s_ret (e_comp G sc_path_pairs.nd [("at", 1)] (i_range1 Z.n_range (a_cons (e_op o_sub (e_var 0) (e_int)) (a_nil))) (blkOk_by (by kernel_rfl)) (fun _ _ _ _ _ => g_name 1 sc_path_pairs.nd) (fun _ _ _ _ _ => ts_nil) (fun _ _ _ _ _ => e_tup (a_cons (e_var 1) (a_cons (e_op o_add (e_var 1) (e_int)) (a_nil)))))) (ss_nil)
theorem r_points_of (Z : Fx w K mg) {qual : Str} {f : Addr} {cdv : Value} {A : Around} {outer : List PySem.Env} {s : Shared} {H : Hp} (bd : Bd 0 (cxOf CX0 P w K mg base N_points_of qual (defScope st_points_of) f cdv A outer s H E0).nox) :
    PSs (cxOf CX0 P w K mg base N_points_of qual (defScope st_points_of) f cdv A outer s H E0).nox (defBody st_points_of) (lS w K b_points_of) := by
  obtain ⟨G, hr, own⟩ := bd
  exact ss_cons (s_if (t_cmp (o_in G) (e_var 0) (e_tup (a_cons (e_str) (a_cons (e_str) (a_cons (e_str) (a_nil)))))) (ss_cons (s_ret (e_ix (ix_any G) (e_var 1) (e_int))) (ss_nil)) (ss_nil)) (ss_cons (s_if (t_cmp (o_in G) (e_var 0) (e_tup (a_cons (e_str) (a_cons (e_str) (a_nil))))) (ss_cons (s_ret (e_op o_add (e_ix (ix_any G) (e_var 1) (e_int)) (e_int))) (ss_nil)) (ss_nil)) (ss_cons (s_if (t_cmp (o_in G) (e_var 0) (e_tup (a_cons (e_str) (a_cons (e_str) (a_nil))))) (ss_cons (s_ret (e_op o_mulA (e_int) (e_ix (ix_any G) (e_var 1) (e_int)))) (ss_nil)) (ss_nil)) (ss_cons (s_if (t_cmp (o_eq G) (e_var 0) (e_str)) (ss_cons (s_ret (e_op o_add (e_ix (ix_any G) (e_var 1) (e_int)) (e_ix (ix_any G) (e_var 1) (e_int)))) (ss_nil)) (ss_nil)) (ss_cons (s_if (t_cmp (o_eq G) (e_var 0) (e_str)) (ss_cons (s_ret (e_op o_mulA (e_ix (ix_any G) (e_var 1) (e_int)) (e_ix (ix_any G) (e_var 1) (e_int)))) (ss_nil)) (ss_nil)) (ss_cons (s_if (t_cmp (o_eq G) (e_var 0) (e_str)) (ss_cons (s_ret (e_op o_shl (e_int) (e_fn (c_minA G) Z.n_min (a_cons (e_ix (ix_any G) (e_var 1) (e_int)) (a_cons (e_int) (a_nil)))))) (ss_nil)) (ss_nil)) (ss_cons (s_ret (e_ix (ix_any G) (e_dispX G (px_cons (e_str) (e_int) (px_cons (e_str) (e_int) (px_cons (e_str) (e_int) (px_cons (e_str) (e_int) (px_nil)))))) (e_var 0))) (ss_nil)))))))
theorem r_sided_pairs (Z : Fx w K mg) {qual : Str} {f : Addr} {cdv : Value} {A : Around} {outer : List PySem.Env} {s : Shared} {H : Hp} (bd : Bd 0 (cxOf CX0 P w K mg base N_sided_pairs qual (defScope st_sided_pairs) f cdv A outer s H E0).nox) :
    PSs (cxOf CX0 P w K mg base N_sided_pairs qual (defScope st_sided_pairs) f cdv A outer s H E0).nox (defBody st_sided_pairs) (lS w K b_sided_pairs) := by
  obtain ⟨G, hr, own⟩ := bd
  exact ss_cons (s_ret (e_comp2 G sc_sided_pairs.nd [("first", 2), ("second", 3)] [3] (i_range1 Z.n_range (a_cons (e_var 0) (a_nil))) (blkOk_by (by kernel_rfl)) (fun _ _ _ _ _ => g_name 2 sc_sided_pairs.nd) (fun _ _ _ _ _ => ts_nil) (fun _ _ _ _ _ => i_range1 Z.n_range (a_cons (e_var 1) (a_nil))) (fun _ _ _ _ _ => g_name 3 sc_sided_pairs.nd) (fun _ _ _ _ _ => ts_nil) (fun _ _ _ _ _ => e_tup (a_cons (e_var 2) (a_cons (e_op o_add (e_var 0) (e_var 3)) (a_nil)))))) (ss_nil)
theorem r_pairs_of (Z : Fx w K mg) (c_all_pairs : Cal P w K mg base 1 "all_pairs" [] f_all_pairs) (c_cube_pairs : Cal P w K mg base 1 "cube_pairs" [] f_cube_pairs) (c_grid_pairs : Cal P w K mg base 1 "grid_pairs" [] f_grid_pairs) (c_named_pairs : Cal P w K mg base 2 "named_pairs" [] f_named_pairs) (c_path_pairs : Cal P w K mg base 1 "path_pairs" [] f_path_pairs) (c_points_of : Cal P w K mg base 1 "points_of" [] f_points_of) (c_ring_pairs : Cal P w K mg base 1 "ring_pairs" [] f_ring_pairs) (c_sided_pairs : Cal P w K mg base 1 "sided_pairs" [] f_sided_pairs) {qual : Str} {f : Addr} {cdv : Value} {A : Around} {outer : List PySem.Env} {s : Shared} {H : Hp} (bd : Bd 2 (cxOf CX0 P w K mg base N_pairs_of qual (defScope st_pairs_of) f cdv A outer s H E0).nox) :
    PSs (cxOf CX0 P w K mg base N_pairs_of qual (defScope st_pairs_of) f cdv A outer s H E0).nox (defBody st_pairs_of) (lS w K b_pairs_of) := by
  obtain ⟨G, hr, own⟩ := bd
  exact ss_cons (s_set 2 sc_pairs_of.nd (e_cal c_points_of G (hr.mono (by decide)) (a_cons (e_var 0) (a_cons (e_var 1) (a_nil))))) (ss_cons (s_if (t_cmp (o_eq G) (e_var 0) (e_str)) (ss_cons (s_ret (e_cal c_ring_pairs G (hr.mono (by decide)) (a_cons (e_int) (a_cons (e_var 2) (a_nil))))) (ss_nil)) (ss_nil)) (ss_cons (s_if (t_cmp (o_eq G) (e_var 0) (e_str)) (ss_cons (s_ret (e_cal c_path_pairs G (hr.mono (by decide)) (a_cons (e_var 2) (a_nil)))) (ss_nil)) (ss_nil)) (ss_cons (s_if (t_cmp (o_eq G) (e_var 0) (e_str)) (ss_cons (s_ret (e_cal c_all_pairs G (hr.mono (by decide)) (a_cons (e_var 2) (a_nil)))) (ss_nil)) (ss_nil)) (ss_cons (s_if (t_cmp (o_eq G) (e_var 0) (e_str)) (ss_cons (s_ret (e_cal c_sided_pairs G (hr.mono (by decide)) (a_cons (e_ix (ix_any G) (e_var 1) (e_int)) (a_cons (e_ix (ix_any G) (e_var 1) (e_int)) (a_nil))))) (ss_nil)) (ss_nil)) (ss_cons (s_if (t_cmp (o_in G) (e_var 0) (e_tup (a_cons (e_str) (a_cons (e_str) (a_nil))))) (ss_cons (s_setComp G sc_pairs_of.nd 3 [("own", 5)] (i_range1 Z.n_range (a_cons (e_op o_sub (e_var 2) (e_int)) (a_nil))) (blkOk_by (by kernel_rfl)) (fun _ _ _ _ _ => g_name 5 sc_pairs_of.nd) (fun _ _ _ _ _ => ts_nil) (fun _ _ _ _ _ => e_tup (a_cons (e_var 5) (a_cons (e_op o_sub (e_var 2) (e_int)) (a_nil))))) (ss_cons (s_ret (e_op o_add (e_var 3) (e_if (t_cmp (o_eq G) (e_var 0) (e_str)) (e_cal c_ring_pairs G (hr.mono (by decide)) (a_cons (e_int) (a_cons (e_op o_sub (e_var 2) (e_int)) (a_nil)))) (e_lst (a_nil))))) (ss_nil))) (ss_nil)) (ss_cons (s_if (t_cmp (o_eq G) (e_var 0) (e_str)) (ss_cons (s_ret (e_cal c_grid_pairs G (hr.mono (by decide)) (a_cons (e_ix (ix_any G) (e_var 1) (e_int)) (a_cons (e_ix (ix_any G) (e_var 1) (e_int)) (a_nil))))) (ss_nil)) (ss_nil)) (ss_cons (s_if (t_cmp (o_eq G) (e_var 0) (e_str)) (ss_cons (s_set 4 sc_pairs_of.nd (e_ix (ix_any G) (e_var 1) (e_int))) (ss_cons (s_ret (e_op o_add (e_op o_add (e_cal c_ring_pairs G (hr.mono (by decide)) (a_cons (e_int) (a_cons (e_var 4) (a_nil)))) (e_cal c_ring_pairs G (hr.mono (by decide)) (a_cons (e_var 4) (a_cons (e_var 4) (a_nil))))) (e_comp G sc_pairs_of.nd [("own", 5)] (i_range1 Z.n_range (a_cons (e_var 4) (a_nil))) (blkOk_by (by kernel_rfl)) (fun _ _ _ _ _ => g_name 5 sc_pairs_of.nd) (fun _ _ _ _ _ => ts_nil) (fun _ _ _ _ _ => e_tup (a_cons (e_var 5) (a_cons (e_op o_add (e_var 5) (e_var 4)) (a_nil))))))) (ss_nil))) (ss_nil)) (ss_cons (s_if (t_cmp (o_eq G) (e_var 0) (e_str)) (ss_cons (s_ret (e_op o_add (e_cal c_ring_pairs G (hr.mono (by decide)) (a_cons (e_int) (a_cons (e_var 2) (a_nil)))) (e_comp G sc_pairs_of.nd [("own", 5)] (i_range1 Z.n_range (a_cons (e_ix (ix_any G) (e_var 1) (e_int)) (a_nil))) (blkOk_by (by kernel_rfl)) (fun _ _ _ _ _ => g_name 5 sc_pairs_of.nd) (fun _ _ _ _ _ => ts_nil) (fun _ _ _ _ _ => e_tup (a_cons (e_var 5) (a_cons (e_op o_add (e_var 5) (e_ix (ix_any G.blk) (e_var 1) (e_int))) (a_nil))))))) (ss_nil)) (ss_nil)) (ss_cons (s_ret (e_if (t_cmp (o_eq G) (e_var 0) (e_str)) (e_cal c_cube_pairs G (hr.mono (by decide)) (a_cons (e_ix (ix_any G) (e_var 1) (e_int)) (a_nil))) (e_cal c_named_pairs G (hr.mono (by decide)) (a_cons (e_var 0) (a_nil))))) (ss_nil))))))))))
theorem r_family_in (Z : Fx w K mg) (c_graph_in : Cal P w K mg base 2 "graph_in" [] f_graph_in) (c_pairs_of : Cal P w K mg base 3 "pairs_of" [] f_pairs_of) (c_points_of : Cal P w K mg base 1 "points_of" [] f_points_of) {qual : Str} {f : Addr} {cdv : Value} {A : Around} {outer : List PySem.Env} {s : Shared} {H : Hp} (bd : Bd 3 (cxOf CX0 P w K mg base N_family_in qual (defScope st_family_in) f cdv A outer s H E0).nox) :
    PSs (cxOf CX0 P w K mg base N_family_in qual (defScope st_family_in) f cdv A outer s H E0).nox (defBody st_family_in) (lS w K b_family_in) := by
  obtain ⟨G, hr, own⟩ := bd
  exact ss_cons (s_ret (e_cal c_graph_in G (hr.mono (by decide)) (a_cons (e_cal c_points_of G (hr.mono (by decide)) (a_cons (e_var 0) (a_cons (e_var 1) (a_nil)))) (a_cons (e_cal c_pairs_of G (hr.mono (by decide)) (a_cons (e_var 0) (a_cons (e_var 1) (a_nil)))) (a_nil))))) (ss_nil)
theorem r_is_integer (Z : Fx w K mg) {qual : Str} {f : Addr} {cdv : Value} {A : Around} {outer : List PySem.Env} {s : Shared} {H : Hp} (bd : Bd 0 (cxOf CX0 P w K mg base N_is_integer qual (defScope st_is_integer) f cdv A outer s H E0).nox) :
    PSs (cxOf CX0 P w K mg base N_is_integer qual (defScope st_is_integer) f cdv A outer s H E0).nox (defBody st_is_integer) (lS w K b_is_integer) := by
  obtain ⟨G, hr, own⟩ := bd
  exact ss_cons (s_ret (e_and (e_isi (e_var 0) Z.n_isinstance Z.n_int) (e_and1 (e_not (e_isi (e_var 0) Z.n_isinstance Z.n_bool))))) (ss_nil)
theorem r_family (Z : Fx w K mg) (c_family_in : Cal P w K mg base 4 "family_in" [] f_family_in) (c_is_integer : Cal P w K mg base 1 "is_integer" [] f_is_integer) (c_points_of : Cal P w K mg base 1 "points_of" [] f_points_of) {qual : Str} {f : Addr} {cdv : Value} {A : Around} {outer : List PySem.Env} {s : Shared} {H : Hp} (bd : Bd 4 (cxOf CX0 P w K mg base N_family qual (defScope st_family) f cdv A outer s H E0).nox) :
    PSs (cxOf CX0 P w K mg base N_family qual (defScope st_family) f cdv A outer s H E0).nox (defBody st_family) (lS w K b_family) := by
  obtain ⟨G, hr, own⟩ := bd
  exact ss_cons (s_if ((w_or (t_not (t_tru (e_isi (e_var 0) Z.n_isinstance Z.n_str))) (w_or1 (t_tabNin Z.t_LEAST (e_var 0)))).pt) (ss_cons (s_never) (ss_nil)) (ss_nil)) (ss_cons (s_set 2 sc_family.nd (e_tabIx Z.t_LEAST (e_var 0))) (ss_cons (s_if ((w_or (t_not (t_tru (e_isi (e_var 1) Z.n_isinstance Z.n_tuple))) (w_or (t_cmp (o_ne G) (e_fn (c_lenA) Z.n_len (a_cons (e_var 1) (a_nil))) (e_fn (c_lenA) Z.n_len (a_cons (e_var 2) (a_nil)))) (w_or1 (t_not (t_tru (e_fn (c_all G) Z.n_all (a_cons (e_comp G sc_family.nd [("own", 3)] (i_seq (e_var 1)) (blkOk_by (by kernel_rfl)) (fun _ _ _ _ _ => g_name 3 sc_family.nd) (fun _ _ _ _ _ => ts_nil) (fun _ _ _ _ _ => e_cal c_is_integer G.blk (hr.mono (by decide)) (a_cons (e_var 3) (a_nil)))) (a_nil)))))))).pt) (ss_cons (s_never) (ss_nil)) (ss_nil)) (ss_cons (s_if ((w_or (t_not (t_tru (e_fn (c_all G) Z.n_all (a_cons (e_comp G sc_family.nd [("own", 3), ("due", 4)] (i_zip Z.n_zip (a_cons (e_var 1) (a_cons (e_var 2) (a_nil)))) (blkOk_by (by kernel_rfl)) (fun _ _ _ _ _ => g_tup G.blk.calm (gs_cons (g_name 3 sc_family.nd) (gs_cons (g_name 4 sc_family.nd) (gs_nil))) (gl_cons (gl_cons (gl_nil)))) (fun _ _ _ _ _ => ts_nil) (fun _ _ _ _ _ => e_cmp (o_ge G.blk) (e_var 3) (e_var 4))) (a_nil))))) (w_or1 (t_cmp (o_gt G) (e_cal c_points_of G (hr.mono (by decide)) (a_cons (e_var 0) (a_cons (e_var 1) (a_nil)))) (e_gint Z.i_MAX_POINTS)))).pt) (ss_cons (s_never) (ss_nil)) (ss_nil)) (ss_cons (s_ret (e_cal c_family_in G (hr.mono (by decide)) (a_cons (e_var 0) (a_cons (e_var 1) (a_nil))))) (ss_nil)))))
theorem r_are_points (Z : Fx w K mg) (c_is_integer : Cal P w K mg base 1 "is_integer" [] f_is_integer) {qual : Str} {f : Addr} {cdv : Value} {A : Around} {outer : List PySem.Env} {s : Shared} {H : Hp} (bd : Bd 1 (cxOf CX0 P w K mg base N_are_points qual (defScope st_are_points) f cdv A outer s H E0).nox) :
    PSs (cxOf CX0 P w K mg base N_are_points qual (defScope st_are_points) f cdv A outer s H E0).nox (defBody st_are_points) (lS w K b_are_points) := by
  obtain ⟨G, hr, own⟩ := bd
  exact ss_cons (s_if ((w_or (t_not (t_tru (e_isi (e_var 0) Z.n_isinstance Z.n_tuple))) (w_or1 (t_not (t_tru (e_fn (c_all G) Z.n_all (a_cons (e_comp G sc_are_points.nd [("own", 2)] (i_seq (e_var 0)) (blkOk_by (by kernel_rfl)) (fun _ _ _ _ _ => g_name 2 sc_are_points.nd) (fun _ _ _ _ _ => ts_nil) (fun _ _ _ _ _ => e_and (e_cal c_is_integer G.blk (hr.mono (by decide)) (a_cons (e_var 2) (a_nil))) (e_and1 (e_chain (e_int) (ch_link (o_le G.blk) (e_var 2) (ch_last (o_lt G.blk) (e_var 1))))))) (a_nil))))))).pt) (ss_cons (s_ret (e_bl)) (ss_nil)) (ss_nil)) (ss_cons (s_ret (e_fn (c_all G) Z.n_all (a_cons (e_comp G sc_are_points.nd [("one", 3), ("other", 4)] (i_zip Z.n_zip (a_cons (e_var 0) (a_cons (e_slice (e_var 0) (l_some (e_int)) l_none) (a_nil)))) (blkOk_by (by kernel_rfl)) (fun _ _ _ _ _ => g_tup G.blk.calm (gs_cons (g_name 3 sc_are_points.nd) (gs_cons (g_name 4 sc_are_points.nd) (gs_nil))) (gl_cons (gl_cons (gl_nil)))) (fun _ _ _ _ _ => ts_nil) (fun _ _ _ _ _ => e_cmp (o_lt G.blk) (e_var 3) (e_var 4))) (a_nil)))) (ss_nil))
theorem r_is_edge (Z : Fx w K mg) (c_is_integer : Cal P w K mg base 1 "is_integer" [] f_is_integer) {qual : Str} {f : Addr} {cdv : Value} {A : Around} {outer : List PySem.Env} {s : Shared} {H : Hp} (bd : Bd 1 (cxOf CX0 P w K mg base N_is_edge qual (defScope st_is_edge) f cdv A outer s H E0).nox) :
    PSs (cxOf CX0 P w K mg base N_is_edge qual (defScope st_is_edge) f cdv A outer s H E0).nox (defBody st_is_edge) (lS w K b_is_edge) := by
  obtain ⟨G, hr, own⟩ := bd
  exact ss_cons (s_if ((w_or (t_not (t_tru (e_isi (e_var 0) Z.n_isinstance Z.n_tuple))) (w_or (t_cmp (o_ne G) (e_fn (c_lenA) Z.n_len (a_cons (e_var 0) (a_nil))) (e_int)) (w_or (t_not (t_tru (e_cal c_is_integer G (hr.mono (by decide)) (a_cons (e_ix (ix_any G) (e_var 0) (e_int)) (a_nil))))) (w_or1 (t_not (t_tru (e_cal c_is_integer G (hr.mono (by decide)) (a_cons (e_ix (ix_any G) (e_var 0) (e_int)) (a_nil))))))))).pt) (ss_cons (s_ret (e_bl)) (ss_nil)) (ss_nil)) (ss_cons (s_ret (e_chain (e_int) (ch_link (o_le G) (e_ix (ix_any G) (e_var 0) (e_int)) (ch_link (o_lt G) (e_ix (ix_any G) (e_var 0) (e_int)) (ch_last (o_lt G) (e_var 1)))))) (ss_nil))
theorem r_is_graph (Z : Fx w K mg) (c_is_edge : Cal P w K mg base 2 "is_edge" [] f_is_edge) (c_is_integer : Cal P w K mg base 1 "is_integer" [] f_is_integer) {qual : Str} {f : Addr} {cdv : Value} {A : Around} {outer : List PySem.Env} {s : Shared} {H : Hp} (bd : Bd 2 (cxOf CX0 P w K mg base N_is_graph qual (defScope st_is_graph) f cdv A outer s H E0).nox) :
    PSs (cxOf CX0 P w K mg base N_is_graph qual (defScope st_is_graph) f cdv A outer s H E0).nox (defBody st_is_graph) (lS w K b_is_graph) := by
  obtain ⟨G, hr, own⟩ := bd
  exact ss_cons (s_if ((w_or (t_not (t_tru (e_isi (e_var 0) Z.n_isinstance Z.n_tuple))) (w_or (t_cmp (o_ne G) (e_fn (c_lenA) Z.n_len (a_cons (e_var 0) (a_nil))) (e_int)) (w_or (t_not (t_tru (e_cal c_is_integer G (hr.mono (by decide)) (a_cons (e_ix (ix_any G) (e_var 0) (e_int)) (a_nil))))) (w_or1 (t_not (t_tru (e_isi (e_ix (ix_any G) (e_var 0) (e_int)) Z.n_isinstance Z.n_tuple))))))).pt) (ss_cons (s_ret (e_bl)) (ss_nil)) (ss_nil)) (ss_cons (s_if ((w_or (t_not (t_chain (e_int) (ch_link (o_le G) (e_ix (ix_any G) (e_var 0) (e_int)) (ch_last (o_le G) (e_gint Z.i_MAX_POINTS))))) (w_or1 (t_not (t_tru (e_fn (c_all G) Z.n_all (a_cons (e_comp G sc_is_graph.nd [("own", 1)] (i_seq (e_ix (ix_any G) (e_var 0) (e_int))) (blkOk_by (by kernel_rfl)) (fun _ _ _ _ _ => g_name 1 sc_is_graph.nd) (fun _ _ _ _ _ => ts_nil) (fun _ _ _ _ _ => e_cal c_is_edge G.blk (hr.mono (by decide)) (a_cons (e_var 1) (a_cons (e_ix (ix_any G.blk) (e_var 0) (e_int)) (a_nil))))) (a_nil))))))).pt) (ss_cons (s_ret (e_bl)) (ss_nil)) (ss_nil)) (ss_cons (s_ret (e_fn (c_all G) Z.n_all (a_cons (e_comp G sc_is_graph.nd [("one", 2), ("other", 3)] (i_zip Z.n_zip (a_cons (e_ix (ix_any G) (e_var 0) (e_int)) (a_cons (e_slice (e_ix (ix_any G) (e_var 0) (e_int)) (l_some (e_int)) l_none) (a_nil)))) (blkOk_by (by kernel_rfl)) (fun _ _ _ _ _ => g_tup G.blk.calm (gs_cons (g_name 2 sc_is_graph.nd) (gs_cons (g_name 3 sc_is_graph.nd) (gs_nil))) (gl_cons (gl_cons (gl_nil)))) (fun _ _ _ _ _ => ts_nil) (fun _ _ _ _ _ => e_cmp (o_lt G.blk) (e_var 2) (e_var 3))) (a_nil)))) (ss_nil)))
theorem r_check_graph (Z : Fx w K mg) (c_is_graph : Cal P w K mg base 3 "is_graph" [] f_is_graph) {qual : Str} {f : Addr} {cdv : Value} {A : Around} {outer : List PySem.Env} {s : Shared} {H : Hp} (bd : Bd 3 (cxOf CX0 P w K mg base N_check_graph qual (defScope st_check_graph) f cdv A outer s H E0).nox) :
    PSs (cxOf CX0 P w K mg base N_check_graph qual (defScope st_check_graph) f cdv A outer s H E0).nox (defBody st_check_graph) (lS w K b_check_graph) := by
  obtain ⟨G, hr, own⟩ := bd
  exact ss_cons (s_if (t_not (t_tru (e_cal c_is_graph G (hr.mono (by decide)) (a_cons (e_var 0) (a_nil))))) (ss_cons (s_never) (ss_nil)) (ss_nil)) (ss_nil)
theorem r_near_in (Z : Fx w K mg) {qual : Str} {f : Addr} {cdv : Value} {A : Around} {outer : List PySem.Env} {s : Shared} {H : Hp} (bd : Bd 0 (cxOf CX0 P w K mg base N_near_in qual (defScope st_near_in) f cdv A outer s H E0).nox) :
    PSs (cxOf CX0 P w K mg base N_near_in qual (defScope st_near_in) f cdv A outer s H E0).nox (defBody st_near_in) (lS w K b_near_in) := by
  obtain ⟨G, hr, own⟩ := bd
  exact ss_cons (s_setComp G sc_near_in.nd 1 [("point", 4)] (i_range1 Z.n_range (a_cons (e_ix (ix_any G) (e_var 0) (e_int)) (a_nil))) (blkOk_by (by kernel_rfl)) (fun _ _ _ _ _ => g_name 4 sc_near_in.nd) (fun _ _ _ _ _ => ts_nil) (fun _ _ _ _ _ => e_lst (a_nil))) (ss_cons (s_for own G.calm (i_seq (e_ix (ix_any G) (e_var 0) (e_int))) (g_tup G.calm (gs_cons (g_name 2 sc_near_in.nd) (gs_cons (g_name 3 sc_near_in.nd) (gs_nil))) (gl_cons (gl_cons (gl_nil)))) (ss_cons (s_expr (e_meth m_append (e_ix (ix_any G) (e_var 1) (e_var 2)) (a_cons (e_var 3) (a_nil)))) (ss_cons (s_expr (e_meth m_append (e_ix (ix_any G) (e_var 1) (e_var 3)) (a_cons (e_var 2) (a_nil)))) (ss_nil)))) (ss_cons (s_ret (e_comp G sc_near_in.nd [("own", 5)] (i_seq (e_var 1)) (blkOk_by (by kernel_rfl)) (fun _ _ _ _ _ => g_name 5 sc_near_in.nd) (fun _ _ _ _ _ => ts_nil) (fun _ _ _ _ _ => e_fn (c_sorted G.blk) Z.n_sorted (a_cons (e_var 5) (a_nil))))) (ss_nil)))
theorem r_reached_in (Z : Fx w K mg) {qual : Str} {f : Addr} {cdv : Value} {A : Around} {outer : List PySem.Env} {s : Shared} {H : Hp} (bd : Bd 0 (cxOf CX0 P w K mg base N_reached_in qual (defScope st_reached_in) f cdv A outer s H E0).nox) :
    PSs (cxOf CX0 P w K mg base N_reached_in qual (defScope st_reached_in) f cdv A outer s H E0).nox (defBody st_reached_in) (lS w K b_reached_in) := by
  obtain ⟨G, hr, own⟩ := bd
  exact ss_cons (s_par 3 4 G.calm sc_reached_in.nd (e_dispX G (px_cons (e_var 1) (e_bl) (px_nil))) (e_lst (a_cons (e_var 1) (a_nil)))) (ss_cons (s_while own (t_tru (e_var 4)) (ss_cons (s_for own G.calm (i_seq (e_ix (ix_any G) (e_var 0) (e_meth0 (m_pop G) (e_var 4)))) (g_name 5 sc_reached_in.nd) (ss_cons (s_if ((w_and (t_cmp (o_in G) (e_var 5) (e_var 2)) (w_and1 (t_cmp (o_nin G) (e_var 5) (e_var 3)))).pt) (ss_cons (s_asg (g_sub (e_var 3) (e_var 5) (st_any G)) (e_bl)) (ss_cons (s_expr (e_meth m_append (e_var 4) (a_cons (e_var 5) (a_nil)))) (ss_nil))) (ss_nil)) (ss_nil))) (ss_nil))) (ss_cons (s_ret (e_fn (c_sorted G) Z.n_sorted (a_cons (e_var 3) (a_nil)))) (ss_nil)))
theorem r_pieces_among (Z : Fx w K mg) (c_near_in : Cal P w K mg base 1 "near_in" [] f_near_in) (c_reached_in : Cal P w K mg base 1 "reached_in" [] f_reached_in) {qual : Str} {f : Addr} {cdv : Value} {A : Around} {outer : List PySem.Env} {s : Shared} {H : Hp} (bd : Bd 1 (cxOf CX0 P w K mg base N_pieces_among qual (defScope st_pieces_among) f cdv A outer s H E0).nox) :
    PSs (cxOf CX0 P w K mg base N_pieces_among qual (defScope st_pieces_among) f cdv A outer s H E0).nox (defBody st_pieces_among) (lS w K b_pieces_among) := by
  obtain ⟨G, hr, own⟩ := bd
  exact ss_cons (s_par3 2 3 4 G.calm sc_pieces_among.nd (e_cal c_near_in G (hr.mono (by decide)) (a_cons (e_var 0) (a_nil))) (e_dcomp G sc_pieces_among.nd [("own", 7)] (i_seq (e_var 1)) (blkOk_by (by kernel_rfl)) (fun _ _ _ _ _ => g_name 7 sc_pieces_among.nd) (fun _ _ _ _ _ => ts_nil) (fun _ _ _ _ _ => e_var 7) (fun _ _ _ _ _ => e_bl)) (e_lst (a_nil))) (ss_cons (s_for own G.calm (i_seq (e_fn (c_sorted G) Z.n_sorted (a_cons (e_var 1) (a_nil)))) (g_name 5 sc_pieces_among.nd) (ss_cons (s_if (t_cmp (o_in G) (e_var 5) (e_var 3)) (ss_cons (s_set 6 sc_pieces_among.nd (e_cal c_reached_in G (hr.mono (by decide)) (a_cons (e_var 2) (a_cons (e_var 5) (a_cons (e_var 3) (a_nil)))))) (ss_cons (s_expr (e_meth m_append (e_var 4) (a_cons (e_var 6) (a_nil)))) (ss_cons (s_lk 3 (s_setDcomp G sc_pieces_among.nd 3 [("own", 7)] (i_seqD (e_var 3)) (blkOk_by (by kernel_rfl)) (fun _ _ _ _ _ => g_name 7 sc_pieces_among.nd) (fun _ _ _ _ _ => ts_one (t_cmp (o_nin G.blk) (e_var 7) (e_var 6))) (fun _ _ _ _ _ => e_var 7) (fun _ _ _ _ _ => e_bl))) (ss_nil)))) (ss_nil)) (ss_nil))) (ss_cons (s_ret (e_var 4)) (ss_nil)))
theorem r_hangs_in (Z : Fx w K mg) (c_pieces_among : Cal P w K mg base 2 "pieces_among" [] f_pieces_among) {qual : Str} {f : Addr} {cdv : Value} {A : Around} {outer : List PySem.Env} {s : Shared} {H : Hp} (bd : Bd 2 (cxOf CX0 P w K mg base N_hangs_in qual (defScope st_hangs_in) f cdv A outer s H E0).nox) :
    PSs (cxOf CX0 P w K mg base N_hangs_in qual (defScope st_hangs_in) f cdv A outer s H E0).nox (defBody st_hangs_in) (lS w K b_hangs_in) := by
  obtain ⟨G, hr, own⟩ := bd
  exact ss_cons (s_ret (e_cmp (o_eq G) (e_fn (c_lenA) Z.n_len (a_cons (e_cal c_pieces_among G (hr.mono (by decide)) (a_cons (e_var 0) (a_cons (e_var 1) (a_nil)))) (a_nil))) (e_int))) (ss_nil)
theorem r_hangs (Z : Fx w K mg) (c_are_points : Cal P w K mg base 2 "are_points" [] f_are_points) (c_check_graph_1 : Cal P w K mg base 4 "check_graph" [D.str "graph"] f_check_graph) (c_hangs_in : Cal P w K mg base 3 "hangs_in" [] f_hangs_in) {qual : Str} {f : Addr} {cdv : Value} {A : Around} {outer : List PySem.Env} {s : Shared} {H : Hp} (bd : Bd 4 (cxOf CX0 P w K mg base N_hangs qual (defScope st_hangs) f cdv A outer s H E0).nox) :
    PSs (cxOf CX0 P w K mg base N_hangs qual (defScope st_hangs) f cdv A outer s H E0).nox (defBody st_hangs) (lS w K b_hangs) := by
  obtain ⟨G, hr, own⟩ := bd
  exact ss_cons (s_expr (e_cal c_check_graph_1 G (hr.mono (by decide)) (a_cons (e_var 0) (a_nil)))) (ss_cons (s_if (t_not (t_tru (e_cal c_are_points G (hr.mono (by decide)) (a_cons (e_var 1) (a_cons (e_ix (ix_any G) (e_var 0) (e_int)) (a_nil)))))) (ss_cons (s_never) (ss_nil)) (ss_nil)) (ss_cons (s_ret (e_cal c_hangs_in G (hr.mono (by decide)) (a_cons (e_var 0) (a_cons (e_var 1) (a_nil))))) (ss_nil)))
theorem r_near (Z : Fx w K mg) (c_check_graph_1 : Cal P w K mg base 4 "check_graph" [D.str "graph"] f_check_graph) (c_near_in : Cal P w K mg base 1 "near_in" [] f_near_in) {qual : Str} {f : Addr} {cdv : Value} {A : Around} {outer : List PySem.Env} {s : Shared} {H : Hp} (bd : Bd 4 (cxOf CX0 P w K mg base N_near qual (defScope st_near) f cdv A outer s H E0).nox) :
    PSs (cxOf CX0 P w K mg base N_near qual (defScope st_near) f cdv A outer s H E0).nox (defBody st_near) (lS w K b_near) := by
  obtain ⟨G, hr, own⟩ := bd
  exact ss_cons (s_expr (e_cal c_check_graph_1 G (hr.mono (by decide)) (a_cons (e_var 0) (a_nil)))) (ss_cons (s_ret (e_ty (c_tuple) Z.n_tuple (a_cons (e_comp G sc_near.nd [("own", 1)] (i_seq (e_cal c_near_in G (hr.mono (by decide)) (a_cons (e_var 0) (a_nil)))) (blkOk_by (by kernel_rfl)) (fun _ _ _ _ _ => g_name 1 sc_near.nd) (fun _ _ _ _ _ => ts_nil) (fun _ _ _ _ _ => e_ty (c_tuple) Z.n_tuple (a_cons (e_var 1) (a_nil)))) (a_nil)))) (ss_nil))
theorem r_pieces_in (Z : Fx w K mg) (c_pieces_among : Cal P w K mg base 2 "pieces_among" [] f_pieces_among) {qual : Str} {f : Addr} {cdv : Value} {A : Around} {outer : List PySem.Env} {s : Shared} {H : Hp} (bd : Bd 2 (cxOf CX0 P w K mg base N_pieces_in qual (defScope st_pieces_in) f cdv A outer s H E0).nox) :
    PSs (cxOf CX0 P w K mg base N_pieces_in qual (defScope st_pieces_in) f cdv A outer s H E0).nox (defBody st_pieces_in) (lS w K b_pieces_in) := by
  obtain ⟨G, hr, own⟩ := bd
  exact ss_cons (s_ret (e_cal c_pieces_among G (hr.mono (by decide)) (a_cons (e_var 0) (a_cons (e_listRg1 G Z.n_list Z.n_range (e_ix (ix_any G) (e_var 0) (e_int))) (a_nil))))) (ss_nil)
theorem r_pieces_of (Z : Fx w K mg) (c_check_graph_1 : Cal P w K mg base 4 "check_graph" [D.str "graph"] f_check_graph) (c_pieces_in : Cal P w K mg base 3 "pieces_in" [] f_pieces_in) {qual : Str} {f : Addr} {cdv : Value} {A : Around} {outer : List PySem.Env} {s : Shared} {H : Hp} (bd : Bd 4 (cxOf CX0 P w K mg base N_pieces_of qual (defScope st_pieces_of) f cdv A outer s H E0).nox) :
    PSs (cxOf CX0 P w K mg base N_pieces_of qual (defScope st_pieces_of) f cdv A outer s H E0).nox (defBody st_pieces_of) (lS w K b_pieces_of) := by
  obtain ⟨G, hr, own⟩ := bd
  exact ss_cons (s_expr (e_cal c_check_graph_1 G (hr.mono (by decide)) (a_cons (e_var 0) (a_nil)))) (ss_cons (s_ret (e_ty (c_tuple) Z.n_tuple (a_cons (e_comp G sc_pieces_of.nd [("own", 1)] (i_seq (e_cal c_pieces_in G (hr.mono (by decide)) (a_cons (e_var 0) (a_nil)))) (blkOk_by (by kernel_rfl)) (fun _ _ _ _ _ => g_name 1 sc_pieces_of.nd) (fun _ _ _ _ _ => ts_nil) (fun _ _ _ _ _ => e_ty (c_tuple) Z.n_tuple (a_cons (e_var 1) (a_nil)))) (a_nil)))) (ss_nil))
theorem r_relabelled_in (Z : Fx w K mg) (c_graph_in : Cal P w K mg base 2 "graph_in" [] f_graph_in) {qual : Str} {f : Addr} {cdv : Value} {A : Around} {outer : List PySem.Env} {s : Shared} {H : Hp} (bd : Bd 2 (cxOf CX0 P w K mg base N_relabelled_in qual (defScope st_relabelled_in) f cdv A outer s H E0).nox) :
    PSs (cxOf CX0 P w K mg base N_relabelled_in qual (defScope st_relabelled_in) f cdv A outer s H E0).nox (defBody st_relabelled_in) (lS w K b_relabelled_in) := by
  obtain ⟨G, hr, own⟩ := bd
  exact ss_cons (s_ret (e_cal c_graph_in G (hr.mono (by decide)) (a_cons (e_ix (ix_any G) (e_var 0) (e_int)) (a_cons (e_comp G sc_relabelled_in.nd [("one", 2), ("other", 3)] (i_seq (e_ix (ix_any G) (e_var 0) (e_int))) (blkOk_by (by kernel_rfl)) (fun _ _ _ _ _ => g_tup G.blk.calm (gs_cons (g_name 2 sc_relabelled_in.nd) (gs_cons (g_name 3 sc_relabelled_in.nd) (gs_nil))) (gl_cons (gl_cons (gl_nil)))) (fun _ _ _ _ _ => ts_nil) (fun _ _ _ _ _ => e_tup (a_cons (e_ix (ix_any G.blk) (e_var 1) (e_var 2)) (a_cons (e_ix (ix_any G.blk) (e_var 1) (e_var 3)) (a_nil))))) (a_nil))))) (ss_nil)
theorem r_relabelled (Z : Fx w K mg) (c_check_graph_1 : Cal P w K mg base 4 "check_graph" [D.str "graph"] f_check_graph) (c_is_integer : Cal P w K mg base 1 "is_integer" [] f_is_integer) (c_relabelled_in : Cal P w K mg base 3 "relabelled_in" [] f_relabelled_in) {qual : Str} {f : Addr} {cdv : Value} {A : Around} {outer : List PySem.Env} {s : Shared} {H : Hp} (bd : Bd 4 (cxOf CX0 P w K mg base N_relabelled qual (defScope st_relabelled) f cdv A outer s H E0).nox) :
    PSs (cxOf CX0 P w K mg base N_relabelled qual (defScope st_relabelled) f cdv A outer s H E0).nox (defBody st_relabelled) (lS w K b_relabelled) := by
  obtain ⟨G, hr, own⟩ := bd
  exact ss_cons (s_expr (e_cal c_check_graph_1 G (hr.mono (by decide)) (a_cons (e_var 0) (a_nil)))) (ss_cons (s_if ((w_or (t_not (t_tru (e_isi (e_var 1) Z.n_isinstance Z.n_tuple))) (w_or1 (t_not (t_tru (e_fn (c_all G) Z.n_all (a_cons (e_comp G sc_relabelled.nd [("own", 2)] (i_seq (e_var 1)) (blkOk_by (by kernel_rfl)) (fun _ _ _ _ _ => g_name 2 sc_relabelled.nd) (fun _ _ _ _ _ => ts_nil) (fun _ _ _ _ _ => e_cal c_is_integer G.blk (hr.mono (by decide)) (a_cons (e_var 2) (a_nil)))) (a_nil))))))).pt) (ss_cons (s_never) (ss_nil)) (ss_nil)) (ss_cons (s_if (t_cmp (o_ne G) (e_fn (c_sorted G) Z.n_sorted (a_cons (e_var 1) (a_nil))) (e_listRg1 G Z.n_list Z.n_range (e_ix (ix_any G) (e_var 0) (e_int)))) (ss_cons (s_never) (ss_nil)) (ss_nil)) (ss_cons (s_ret (e_cal c_relabelled_in G (hr.mono (by decide)) (a_cons (e_var 0) (a_cons (e_var 1) (a_nil))))) (ss_nil))))
theorem r__law_family_holds (Z : Fx w K mg) (c__law_due : Cal P w K mg base 2 "_law_due" [] f__law_due) (c__law_far : Cal P w K mg base 1 "_law_far" [] f__law_far) (c__law_order : Cal P w K mg base 2 "_law_order" [] f__law_order) (c_family : Cal P w K mg base 5 "family" [] f_family) (c_hangs : Cal P w K mg base 5 "hangs" [] f_hangs) (c_near : Cal P w K mg base 5 "near" [] f_near) (c_pieces_of : Cal P w K mg base 5 "pieces_of" [] f_pieces_of) (c_relabelled : Cal P w K mg base 5 "relabelled" [] f_relabelled) {qual : Str} {f : Addr} {cdv : Value} {A : Around} {outer : List PySem.Env} {s : Shared} {H : Hp} (bd : Bd 5 (cxOf CX0 P w K mg base N__law_family_holds qual (defScope st__law_family_holds) f cdv A outer s H E0).nox) :
    PSs (cxOf CX0 P w K mg base N__law_family_holds qual (defScope st__law_family_holds) f cdv A outer s H E0).nox (defBody st__law_family_holds) (lS w K b__law_family_holds) := by
  obtain ⟨G, hr, own⟩ := bd
  exact ss_cons (s_set 3 sc__law_family_holds.nd (e_cal c_family G (hr.mono (by decide)) (a_cons (e_var 1) (a_cons (e_var 2) (a_nil))))) (ss_cons (s_asg (g_tup G.calm (gs_cons (g_name 4 sc__law_family_holds.nd) (gs_cons (g_name 5 sc__law_family_holds.nd) (gs_nil))) (gl_cons (gl_cons (gl_nil)))) (e_tup (a_cons (e_cal c__law_order G (hr.mono (by decide)) (a_cons (e_var 0) (a_cons (e_ix (ix_any G) (e_var 3) (e_int)) (a_nil)))) (a_cons (e_cmp (o_gt G) (e_ix (ix_any G) (e_var 3) (e_int)) (e_int)) (a_nil))))) (ss_cons (s_set 6 sc__law_family_holds.nd (e_cal c_relabelled G (hr.mono (by decide)) (a_cons (e_var 3) (a_cons (e_var 4) (a_nil))))) (ss_cons (s_set 7 sc__law_family_holds.nd (e_cal c_near G (hr.mono (by decide)) (a_cons (e_var 6) (a_nil)))) (ss_cons (s_for own G.calm (i_range1 Z.n_range (a_cons (e_ix (ix_any G) (e_var 3) (e_int)) (a_nil))) (g_name 8 sc__law_family_holds.nd) (ss_cons (s_set 9 sc__law_family_holds.nd (e_cal c__law_far G (hr.mono (by decide)) (a_cons (e_var 7) (a_cons (e_ix (ix_any G) (e_var 4) (e_var 8)) (a_nil))))) (ss_cons (s_setComp G sc__law_family_holds.nd 10 [("j", 11)] (i_range1 Z.n_range (a_cons (e_ix (ix_any G) (e_var 3) (e_int)) (a_nil))) (blkOk_by (by kernel_rfl)) (fun _ _ _ _ _ => g_name 11 sc__law_family_holds.nd) (fun _ _ _ _ _ => ts_nil) (fun _ _ _ _ _ => e_if (t_cmp (o_eq G.blk) (e_var 11) (e_var 8)) (e_int) (e_cal c__law_due G.blk (hr.mono (by decide)) (a_cons (e_var 1) (a_cons (e_var 2) (a_cons (e_var 8) (a_cons (e_var 11) (a_nil)))))))) (ss_cons (s_if (t_cmp (o_ne G) (e_comp G sc__law_family_holds.nd [("j", 11)] (i_range1 Z.n_range (a_cons (e_ix (ix_any G) (e_var 3) (e_int)) (a_nil))) (blkOk_by (by kernel_rfl)) (fun _ _ _ _ _ => g_name 11 sc__law_family_holds.nd) (fun _ _ _ _ _ => ts_nil) (fun _ _ _ _ _ => e_ix (ix_any G.blk) (e_var 9) (e_ix (ix_any G.blk) (e_var 4) (e_var 11)))) (e_var 10)) (ss_cons (s_ret (e_bl)) (ss_nil)) (ss_nil)) (ss_cons (s_set 5 sc__law_family_holds.nd (e_and (e_var 5) (e_and1 (e_cmp (o_nin G) (e_non) (e_var 10))))) (ss_nil)))))) (ss_cons (s_ret (e_and (e_cmp (o_eq G) (e_cal c_hangs G (hr.mono (by decide)) (a_cons (e_var 6) (a_cons (e_tupRg1 G Z.n_tuple Z.n_range (e_ix (ix_any G) (e_var 3) (e_int))) (a_nil)))) (e_var 5)) (e_and1 (e_cmp (o_eq G) (e_cmp (o_eq G) (e_fn (c_lenA) Z.n_len (a_cons (e_cal c_pieces_of G (hr.mono (by decide)) (a_cons (e_var 6) (a_nil))) (a_nil))) (e_int)) (e_var 5))))) (ss_nil))))))
theorem r__law_least (Z : Fx w K mg) {qual : Str} {f : Addr} {cdv : Value} {A : Around} {outer : List PySem.Env} {s : Shared} {H : Hp} (bd : Bd 0 (cxOf CX0 P w K mg base N__law_least qual (defScope st__law_least) f cdv A outer s H E0).nox) :
    PSs (cxOf CX0 P w K mg base N__law_least qual (defScope st__law_least) f cdv A outer s H E0).nox (defBody st__law_least) (lS w K b__law_least) := by
  obtain ⟨G, hr, own⟩ := bd
  exact ss_cons (s_set 0 sc__law_least.nd (e_dispX G (px_cons (e_str) (e_tup (a_cons (e_int) (a_nil))) (px_cons (e_str) (e_tup (a_cons (e_int) (a_nil))) (px_cons (e_str) (e_tup (a_cons (e_int) (a_nil))) (px_cons (e_str) (e_tup (a_cons (e_int) (a_cons (e_int) (a_nil)))) (px_cons (e_str) (e_tup (a_cons (e_int) (a_nil))) (px_cons (e_str) (e_tup (a_cons (e_int) (a_nil))) (px_nil))))))))) (ss_cons (s_ret (e_ty (c_dict G) Z.n_dict (a_cons (e_op o_add (e_items G (e_var 0) Z.n_list) (e_lst (a_cons (e_tup (a_cons (e_str) (a_cons (e_tup (a_cons (e_int) (a_cons (e_int) (a_nil)))) (a_nil)))) (a_cons (e_tup (a_cons (e_str) (a_cons (e_tup (a_cons (e_int) (a_nil))) (a_nil)))) (a_cons (e_tup (a_cons (e_str) (a_cons (e_tup (a_cons (e_int) (a_nil))) (a_nil)))) (a_cons (e_tup (a_cons (e_str) (a_cons (e_tup (a_cons (e_int) (a_nil))) (a_nil)))) (a_nil))))))) (a_nil)))) (ss_nil))
theorem r__law_most (Z : Fx w K mg) {qual : Str} {f : Addr} {cdv : Value} {A : Around} {outer : List PySem.Env} {s : Shared} {H : Hp} (bd : Bd 0 (cxOf CX0 P w K mg base N__law_most qual (defScope st__law_most) f cdv A outer s H E0).nox) :
    PSs (cxOf CX0 P w K mg base N__law_most qual (defScope st__law_most) f cdv A outer s H E0).nox (defBody st__law_most) (lS w K b__law_most) := by
  obtain ⟨G, hr, own⟩ := bd
  exact ss_cons (s_set 1 sc__law_most.nd (e_dispX G (px_cons (e_str) (e_tup (a_cons (e_int) (a_cons (e_int) (a_nil)))) (px_cons (e_str) (e_tup (a_cons (e_int) (a_nil))) (px_cons (e_str) (e_tup (a_cons (e_int) (a_nil))) (px_cons (e_str) (e_tup (a_cons (e_int) (a_cons (e_int) (a_nil)))) (px_cons (e_str) (e_tup (a_cons (e_int) (a_nil))) (px_cons (e_str) (e_tup (a_cons (e_int) (a_nil))) (px_cons (e_str) (e_tup (a_cons (e_int) (a_nil))) (px_nil)))))))))) (ss_cons (s_ret (e_meth (m_get G) (e_var 1) (a_cons (e_var 0) (a_cons (e_tup (a_cons (e_int) (a_nil))) (a_nil))))) (ss_nil))
theorem r__law_petersen_holds (Z : Fx w K mg) (c__law_order : Cal P w K mg base 2 "_law_order" [] f__law_order) (c_family : Cal P w K mg base 5 "family" [] f_family) (c_near : Cal P w K mg base 5 "near" [] f_near) (c_relabelled : Cal P w K mg base 5 "relabelled" [] f_relabelled) {qual : Str} {f : Addr} {cdv : Value} {A : Around} {outer : List PySem.Env} {s : Shared} {H : Hp} (bd : Bd 5 (cxOf CX0 P w K mg base N__law_petersen_holds qual (defScope st__law_petersen_holds) f cdv A outer s H E0).nox) :
    PSs (cxOf CX0 P w K mg base N__law_petersen_holds qual (defScope st__law_petersen_holds) f cdv A outer s H E0).nox (defBody st__law_petersen_holds) (lS w K b__law_petersen_holds) := by
  obtain ⟨G, hr, own⟩ := bd
  exact ss_cons (s_set 1 sc__law_petersen_holds.nd (e_cal c_near G (hr.mono (by decide)) (a_cons (e_cal c_relabelled G (hr.mono (by decide)) (a_cons (e_cal c_family G (hr.mono (by decide)) (a_cons (e_str) (a_cons (e_tup (a_nil)) (a_nil)))) (a_cons (e_cal c__law_order G (hr.mono (by decide)) (a_cons (e_var 0) (a_cons (e_int) (a_nil)))) (a_nil)))) (a_nil)))) (ss_cons (s_for own G.calm (i_range1 Z.n_range (a_cons (e_int) (a_nil))) (g_name 2 sc__law_petersen_holds.nd) (ss_cons (s_for own G.calm (i_range1 Z.n_range (a_cons (e_var 2) (a_nil))) (g_name 3 sc__law_petersen_holds.nd) (ss_cons (s_setComp G sc__law_petersen_holds.nd 4 [("own", 5)] (i_seq (e_ix (ix_any G) (e_var 1) (e_var 2))) (blkOk_by (by kernel_rfl)) (fun _ _ _ _ _ => g_name 5 sc__law_petersen_holds.nd) (fun _ _ _ _ _ => ts_one (t_cmp (o_in G.blk) (e_var 5) (e_ix (ix_any G.blk) (e_var 1) (e_var 3)))) (fun _ _ _ _ _ => e_var 5)) (ss_cons (s_if (t_cmp (o_ne G) (e_fn (c_lenA) Z.n_len (a_cons (e_var 4) (a_nil))) (e_if (t_cmp (o_in G) (e_var 3) (e_ix (ix_any G) (e_var 1) (e_var 2))) (e_int) (e_int))) (ss_cons (s_ret (e_bl)) (ss_nil)) (ss_nil)) (ss_nil)))) (ss_nil))) (ss_cons (s_ret (e_cmp (o_eq G) (e_comp G sc__law_petersen_holds.nd [("own", 5)] (i_seq (e_var 1)) (blkOk_by (by kernel_rfl)) (fun _ _ _ _ _ => g_name 5 sc__law_petersen_holds.nd) (fun _ _ _ _ _ => ts_one (t_cmp (o_ne G.blk) (e_fn (c_lenA) Z.n_len (a_cons (e_var 5) (a_nil))) (e_int))) (fun _ _ _ _ _ => e_var 5)) (e_lst (a_nil)))) (ss_nil)))
theorem r__law_start (Z : Fx w K mg) {qual : Str} {f : Addr} {cdv : Value} {A : Around} {outer : List PySem.Env} {s : Shared} {H : Hp} (bd : Bd 0 (cxOf CX0 P w K mg base N__law_start qual (defScope st__law_start) f cdv A outer s H E0).nox) :
    PSs (cxOf CX0 P w K mg base N__law_start qual (defScope st__law_start) f cdv A outer s H E0).nox (defBody st__law_start) (lS w K b__law_start) := by
  obtain ⟨G, hr, own⟩ := bd
  exact ss_cons (s_set 1 sc__law_start.nd (e_int)) (ss_cons (s_for own G.calm (i_seq (e_slice (e_var 0) l_none (l_some (e_int)))) (g_name 2 sc__law_start.nd) (ss_cons (s_set 1 sc__law_start.nd (e_op o_add (e_op o_mod (e_ty (c_int) Z.n_int (a_cons (e_op o_add (e_op o_mulA (e_var 1) (e_int)) (e_var 2)) (a_nil))) (e_int)) (e_int))) (ss_nil))) (ss_cons (s_ret (e_lst (a_cons (e_comp G sc__law_start.nd [("cell", 2)] (i_seq (e_slice (e_var 0) l_none (l_some (e_int)))) (blkOk_by (by kernel_rfl)) (fun _ _ _ _ _ => g_name 2 sc__law_start.nd) (fun _ _ _ _ _ => ts_nil) (fun _ _ _ _ _ => e_fn (c_abs) Z.n_abs (a_cons (e_ty (c_int) Z.n_int (a_cons (e_var 2) (a_nil))) (a_nil)))) (a_cons (e_int) (a_cons (e_int) (a_cons (e_int) (a_cons (e_var 1) (a_cons (e_int) (a_nil))))))))) (ss_nil)))
theorem r_law (Z : Fx w K mg) (c__law_draw : Cal P w K mg base 1 "_law_draw" [] f__law_draw) (c__law_family_holds : Cal P w K mg base 6 "_law_family_holds" [] f__law_family_holds) (c__law_least : Cal P w K mg base 1 "_law_least" [] f__law_least) (c__law_most : Cal P w K mg base 1 "_law_most" [] f__law_most) (c__law_petersen_holds : Cal P w K mg base 6 "_law_petersen_holds" [] f__law_petersen_holds) (c__law_start : Cal P w K mg base 1 "_law_start" [] f__law_start) {qual : Str} {f : Addr} {cdv : Value} {A : Around} {outer : List PySem.Env} {s : Shared} {H : Hp} (bd : Bd 6 (cxOf CX0 P w K mg base N_law qual (defScope st_law) f cdv A outer s H E0).nox) :
    PSs (cxOf CX0 P w K mg base N_law qual (defScope st_law) f cdv A outer s H E0).nox (defBody st_law) (lS w K b_law) := by
  obtain ⟨G, hr, own⟩ := bd
  exact ss_cons (s_set 1 sc_law.nd (e_cal c__law_start G (hr.mono (by decide)) (a_cons (e_var 0) (a_nil)))) (ss_cons (s_for own G.calm (i_seq (e_fn (c_sorted G) Z.n_sorted (a_cons (e_cal0 c__law_least G (hr.mono (by decide))) (a_nil)))) (g_name 2 sc_law.nd) (ss_cons (s_asg (g_tup G.calm (gs_cons (g_name 3 sc_law.nd) (gs_cons (g_name 4 sc_law.nd) (gs_nil))) (gl_cons (gl_cons (gl_nil)))) (e_tup (a_cons (e_ix (ix_any G) (e_cal0 c__law_least G (hr.mono (by decide))) (e_var 2)) (a_cons (e_cal c__law_most G (hr.mono (by decide)) (a_cons (e_var 2) (a_nil))) (a_nil))))) (ss_cons (s_set 5 sc_law.nd (e_ty (c_tuple) Z.n_tuple (a_cons (e_comp G sc_law.nd [("k", 6)] (i_range1 Z.n_range (a_cons (e_fn (c_lenA) Z.n_len (a_cons (e_var 3) (a_nil))) (a_nil))) (blkOk_by (by kernel_rfl)) (fun _ _ _ _ _ => g_name 6 sc_law.nd) (fun _ _ _ _ _ => ts_nil) (fun _ _ _ _ _ => e_op o_add (e_ix (ix_any G.blk) (e_var 3) (e_var 6)) (e_cal c__law_draw G.blk (hr.mono (by decide)) (a_cons (e_var 1) (a_cons (e_op o_add (e_op o_sub (e_ix (ix_any G.blk) (e_var 4) (e_var 6)) (e_ix (ix_any G.blk) (e_var 3) (e_var 6))) (e_int)) (a_nil)))))) (a_nil)))) (ss_cons (s_if (t_not (t_tru (e_cal c__law_family_holds G (hr.mono (by decide)) (a_cons (e_var 1) (a_cons (e_var 2) (a_cons (e_var 5) (a_nil))))))) (ss_cons (s_ret (e_bl)) (ss_nil)) (ss_nil)) (ss_nil))))) (ss_cons (s_ret (e_cal c__law_petersen_holds G (hr.mono (by decide)) (a_cons (e_var 1) (a_nil)))) (ss_nil)))
theorem k__law_draw (Z : Fx w K mg) : Cal P w K mg base 1 "_law_draw" [] f__law_draw := by
  obtain ⟨a, fd, F, hm⟩ := Z.d__law_draw
  exact cal_n (ps := P__law_draw) F (FunV F sc__law_draw fun cdv A outer s H bd => r__law_draw Z bd) hm fun _ _ _ _ _ _ us hl => match us, hl with | [_, _], _ => rfl
theorem k__law_digits (Z : Fx w K mg) : Cal P w K mg base 1 "_law_digits" [] f__law_digits := by
  obtain ⟨a, fd, F, hm⟩ := Z.d__law_digits
  exact cal_n (ps := P__law_digits) F (FunV F sc__law_digits fun cdv A outer s H bd => r__law_digits Z bd) hm fun _ _ _ _ _ _ us hl => match us, hl with | [_, _], _ => rfl
theorem k__law_round (Z : Fx w K mg) : Cal P w K mg base 1 "_law_round" [] f__law_round := by
  obtain ⟨a, fd, F, hm⟩ := Z.d__law_round
  exact cal_n (ps := P__law_round) F (FunV F sc__law_round fun cdv A outer s H bd => r__law_round Z bd) hm fun _ _ _ _ _ _ us hl => match us, hl with | [_, _, _], _ => rfl
theorem k__law_due (Z : Fx w K mg) : Cal P w K mg base 2 "_law_due" [] f__law_due := by
  obtain ⟨a, fd, F, hm⟩ := Z.d__law_due
  exact cal_n (ps := P__law_due) F (FunV F sc__law_due fun cdv A outer s H bd => r__law_due Z (k__law_digits Z) (k__law_round Z) bd) hm fun _ _ _ _ _ _ us hl => match us, hl with | [_, _, _, _], _ => rfl
theorem k__law_far (Z : Fx w K mg) : Cal P w K mg base 1 "_law_far" [] f__law_far := by
  obtain ⟨a, fd, F, hm⟩ := Z.d__law_far
  exact cal_n (ps := P__law_far) F (FunV F sc__law_far fun cdv A outer s H bd => r__law_far Z bd) hm fun _ _ _ _ _ _ us hl => match us, hl with | [_, _], _ => rfl
theorem k__law_order (Z : Fx w K mg) : Cal P w K mg base 2 "_law_order" [] f__law_order := by
  obtain ⟨a, fd, F, hm⟩ := Z.d__law_order
  exact cal_n (ps := P__law_order) F (FunV F sc__law_order fun cdv A outer s H bd => r__law_order Z (k__law_draw Z) bd) hm fun _ _ _ _ _ _ us hl => match us, hl with | [_, _], _ => rfl
theorem k_edge_in (Z : Fx w K mg) : Cal P w K mg base 1 "edge_in" [] f_edge_in := by
  obtain ⟨a, fd, F, hm⟩ := Z.d_edge_in
  exact cal_n (ps := P_edge_in) F (FunV F sc_edge_in fun cdv A outer s H bd => r_edge_in Z bd) hm fun _ _ _ _ _ _ us hl => match us, hl with | [_, _], _ => rfl
theorem k_graph_in (Z : Fx w K mg) : Cal P w K mg base 2 "graph_in" [] f_graph_in := by
  obtain ⟨a, fd, F, hm⟩ := Z.d_graph_in
  exact cal_n (ps := P_graph_in) F (FunV F sc_graph_in fun cdv A outer s H bd => r_graph_in Z (k_edge_in Z) bd) hm fun _ _ _ _ _ _ us hl => match us, hl with | [_, _], _ => rfl
theorem k_all_pairs (Z : Fx w K mg) : Cal P w K mg base 1 "all_pairs" [] f_all_pairs := by
  obtain ⟨a, fd, F, hm⟩ := Z.d_all_pairs
  exact cal_n (ps := P_all_pairs) F (FunV F sc_all_pairs fun cdv A outer s H bd => r_all_pairs Z bd) hm fun _ _ _ _ _ _ us hl => match us, hl with | [_], _ => rfl
theorem k_cube_pairs (Z : Fx w K mg) : Cal P w K mg base 1 "cube_pairs" [] f_cube_pairs := by
  obtain ⟨a, fd, F, hm⟩ := Z.d_cube_pairs
  exact cal_n (ps := P_cube_pairs) F (FunV F sc_cube_pairs fun cdv A outer s H bd => r_cube_pairs Z bd) hm fun _ _ _ _ _ _ us hl => match us, hl with | [_], _ => rfl
theorem k_grid_pairs (Z : Fx w K mg) : Cal P w K mg base 1 "grid_pairs" [] f_grid_pairs := by
  obtain ⟨a, fd, F, hm⟩ := Z.d_grid_pairs
  exact cal_n (ps := P_grid_pairs) F (FunV F sc_grid_pairs fun cdv A outer s H bd => r_grid_pairs Z bd) hm fun _ _ _ _ _ _ us hl => match us, hl with | [_, _], _ => rfl
theorem k_ring_pairs (Z : Fx w K mg) : Cal P w K mg base 1 "ring_pairs" [] f_ring_pairs := by
  obtain ⟨a, fd, F, hm⟩ := Z.d_ring_pairs
  exact cal_n (ps := P_ring_pairs) F (FunV F sc_ring_pairs fun cdv A outer s H bd => r_ring_pairs Z bd) hm fun _ _ _ _ _ _ us hl => match us, hl with | [_, _], _ => rfl
theorem k_named_pairs (Z : Fx w K mg) : Cal P w K mg base 2 "named_pairs" [] f_named_pairs := by
  obtain ⟨a, fd, F, hm⟩ := Z.d_named_pairs
  exact cal_n (ps := P_named_pairs) F (FunV F sc_named_pairs fun cdv A outer s H bd => r_named_pairs Z (k_ring_pairs Z) bd) hm fun _ _ _ _ _ _ us hl => match us, hl with | [_], _ => rfl
theorem k_path_pairs (Z : Fx w K mg) : Cal P w K mg base 1 "path_pairs" [] f_path_pairs := by
  obtain ⟨a, fd, F, hm⟩ := Z.d_path_pairs
  exact cal_n (ps := P_path_pairs) F (FunV F sc_path_pairs fun cdv A outer s H bd => r_path_pairs Z bd) hm fun _ _ _ _ _ _ us hl => match us, hl with | [_], _ => rfl
theorem k_points_of (Z : Fx w K mg) : Cal P w K mg base 1 "points_of" [] f_points_of := by
  obtain ⟨a, fd, F, hm⟩ := Z.d_points_of
  exact cal_n (ps := P_points_of) F (FunV F sc_points_of fun cdv A outer s H bd => r_points_of Z bd) hm fun _ _ _ _ _ _ us hl => match us, hl with | [_, _], _ => rfl
theorem k_sided_pairs (Z : Fx w K mg) : Cal P w K mg base 1 "sided_pairs" [] f_sided_pairs := by
  obtain ⟨a, fd, F, hm⟩ := Z.d_sided_pairs
  exact cal_n (ps := P_sided_pairs) F (FunV F sc_sided_pairs fun cdv A outer s H bd => r_sided_pairs Z bd) hm fun _ _ _ _ _ _ us hl => match us, hl with | [_, _], _ => rfl
theorem k_pairs_of (Z : Fx w K mg) : Cal P w K mg base 3 "pairs_of" [] f_pairs_of := by
  obtain ⟨a, fd, F, hm⟩ := Z.d_pairs_of
  exact cal_n (ps := P_pairs_of) F (FunV F sc_pairs_of fun cdv A outer s H bd => r_pairs_of Z (k_all_pairs Z) (k_cube_pairs Z) (k_grid_pairs Z) (k_named_pairs Z) (k_path_pairs Z) (k_points_of Z) (k_ring_pairs Z) (k_sided_pairs Z) bd) hm fun _ _ _ _ _ _ us hl => match us, hl with | [_, _], _ => rfl
theorem k_family_in (Z : Fx w K mg) : Cal P w K mg base 4 "family_in" [] f_family_in := by
  obtain ⟨a, fd, F, hm⟩ := Z.d_family_in
  exact cal_n (ps := P_family_in) F (FunV F sc_family_in fun cdv A outer s H bd => r_family_in Z (k_graph_in Z) (k_pairs_of Z) (k_points_of Z) bd) hm fun _ _ _ _ _ _ us hl => match us, hl with | [_, _], _ => rfl
theorem k_is_integer (Z : Fx w K mg) : Cal P w K mg base 1 "is_integer" [] f_is_integer := by
  obtain ⟨a, fd, F, hm⟩ := Z.d_is_integer
  exact cal_n (ps := P_is_integer) F (FunV F sc_is_integer fun cdv A outer s H bd => r_is_integer Z bd) hm fun _ _ _ _ _ _ us hl => match us, hl with | [_], _ => rfl
theorem k_family (Z : Fx w K mg) : Cal P w K mg base 5 "family" [] f_family := by
  obtain ⟨a, fd, F, hm⟩ := Z.d_family
  exact cal_n (ps := P_family) F (FunV F sc_family fun cdv A outer s H bd => r_family Z (k_family_in Z) (k_is_integer Z) (k_points_of Z) bd) hm fun _ _ _ _ _ _ us hl => match us, hl with | [_, _], _ => rfl
theorem k_are_points (Z : Fx w K mg) : Cal P w K mg base 2 "are_points" [] f_are_points := by
  obtain ⟨a, fd, F, hm⟩ := Z.d_are_points
  exact cal_n (ps := P_are_points) F (FunV F sc_are_points fun cdv A outer s H bd => r_are_points Z (k_is_integer Z) bd) hm fun _ _ _ _ _ _ us hl => match us, hl with | [_, _], _ => rfl
theorem k_is_edge (Z : Fx w K mg) : Cal P w K mg base 2 "is_edge" [] f_is_edge := by
  obtain ⟨a, fd, F, hm⟩ := Z.d_is_edge
  exact cal_n (ps := P_is_edge) F (FunV F sc_is_edge fun cdv A outer s H bd => r_is_edge Z (k_is_integer Z) bd) hm fun _ _ _ _ _ _ us hl => match us, hl with | [_, _], _ => rfl
theorem k_is_graph (Z : Fx w K mg) : Cal P w K mg base 3 "is_graph" [] f_is_graph := by
  obtain ⟨a, fd, F, hm⟩ := Z.d_is_graph
  exact cal_n (ps := P_is_graph) F (FunV F sc_is_graph fun cdv A outer s H bd => r_is_graph Z (k_is_edge Z) (k_is_integer Z) bd) hm fun _ _ _ _ _ _ us hl => match us, hl with | [_], _ => rfl
theorem k_check_graph_1 (Z : Fx w K mg) : Cal P w K mg base 4 "check_graph" [D.str "graph"] f_check_graph := by
  obtain ⟨a, fd, F, hm⟩ := Z.d_check_graph
  exact cal_d (ps := P_check_graph) 1 0 [D.str "graph"] F (FunV F sc_check_graph fun cdv A outer s H bd => r_check_graph Z (k_is_graph Z) bd) hm (by simp) rfl (fun _ _ => .cons (.str _) (.nil)) fun _ _ _ _ _ _ _ us its h1 h2 => match us, its, h1, h2 with | [_], [_], _, _ => ⟨_, rfl, rfl⟩
theorem k_near_in (Z : Fx w K mg) : Cal P w K mg base 1 "near_in" [] f_near_in := by
  obtain ⟨a, fd, F, hm⟩ := Z.d_near_in
  exact cal_n (ps := P_near_in) F (FunV F sc_near_in fun cdv A outer s H bd => r_near_in Z bd) hm fun _ _ _ _ _ _ us hl => match us, hl with | [_], _ => rfl
theorem k_reached_in (Z : Fx w K mg) : Cal P w K mg base 1 "reached_in" [] f_reached_in := by
  obtain ⟨a, fd, F, hm⟩ := Z.d_reached_in
  exact cal_n (ps := P_reached_in) F (FunV F sc_reached_in fun cdv A outer s H bd => r_reached_in Z bd) hm fun _ _ _ _ _ _ us hl => match us, hl with | [_, _, _], _ => rfl
theorem k_pieces_among (Z : Fx w K mg) : Cal P w K mg base 2 "pieces_among" [] f_pieces_among := by
  obtain ⟨a, fd, F, hm⟩ := Z.d_pieces_among
  exact cal_n (ps := P_pieces_among) F (FunV F sc_pieces_among fun cdv A outer s H bd => r_pieces_among Z (k_near_in Z) (k_reached_in Z) bd) hm fun _ _ _ _ _ _ us hl => match us, hl with | [_, _], _ => rfl
theorem k_hangs_in (Z : Fx w K mg) : Cal P w K mg base 3 "hangs_in" [] f_hangs_in := by
  obtain ⟨a, fd, F, hm⟩ := Z.d_hangs_in
  exact cal_n (ps := P_hangs_in) F (FunV F sc_hangs_in fun cdv A outer s H bd => r_hangs_in Z (k_pieces_among Z) bd) hm fun _ _ _ _ _ _ us hl => match us, hl with | [_, _], _ => rfl
theorem k_hangs (Z : Fx w K mg) : Cal P w K mg base 5 "hangs" [] f_hangs := by
  obtain ⟨a, fd, F, hm⟩ := Z.d_hangs
  exact cal_n (ps := P_hangs) F (FunV F sc_hangs fun cdv A outer s H bd => r_hangs Z (k_are_points Z) (k_check_graph_1 Z) (k_hangs_in Z) bd) hm fun _ _ _ _ _ _ us hl => match us, hl with | [_, _], _ => rfl
theorem k_near (Z : Fx w K mg) : Cal P w K mg base 5 "near" [] f_near := by
  obtain ⟨a, fd, F, hm⟩ := Z.d_near
  exact cal_n (ps := P_near) F (FunV F sc_near fun cdv A outer s H bd => r_near Z (k_check_graph_1 Z) (k_near_in Z) bd) hm fun _ _ _ _ _ _ us hl => match us, hl with | [_], _ => rfl
theorem k_pieces_in (Z : Fx w K mg) : Cal P w K mg base 3 "pieces_in" [] f_pieces_in := by
  obtain ⟨a, fd, F, hm⟩ := Z.d_pieces_in
  exact cal_n (ps := P_pieces_in) F (FunV F sc_pieces_in fun cdv A outer s H bd => r_pieces_in Z (k_pieces_among Z) bd) hm fun _ _ _ _ _ _ us hl => match us, hl with | [_], _ => rfl
theorem k_pieces_of (Z : Fx w K mg) : Cal P w K mg base 5 "pieces_of" [] f_pieces_of := by
  obtain ⟨a, fd, F, hm⟩ := Z.d_pieces_of
  exact cal_n (ps := P_pieces_of) F (FunV F sc_pieces_of fun cdv A outer s H bd => r_pieces_of Z (k_check_graph_1 Z) (k_pieces_in Z) bd) hm fun _ _ _ _ _ _ us hl => match us, hl with | [_], _ => rfl
theorem k_relabelled_in (Z : Fx w K mg) : Cal P w K mg base 3 "relabelled_in" [] f_relabelled_in := by
  obtain ⟨a, fd, F, hm⟩ := Z.d_relabelled_in
  exact cal_n (ps := P_relabelled_in) F (FunV F sc_relabelled_in fun cdv A outer s H bd => r_relabelled_in Z (k_graph_in Z) bd) hm fun _ _ _ _ _ _ us hl => match us, hl with | [_, _], _ => rfl
theorem k_relabelled (Z : Fx w K mg) : Cal P w K mg base 5 "relabelled" [] f_relabelled := by
  obtain ⟨a, fd, F, hm⟩ := Z.d_relabelled
  exact cal_n (ps := P_relabelled) F (FunV F sc_relabelled fun cdv A outer s H bd => r_relabelled Z (k_check_graph_1 Z) (k_is_integer Z) (k_relabelled_in Z) bd) hm fun _ _ _ _ _ _ us hl => match us, hl with | [_, _], _ => rfl
theorem k__law_family_holds (Z : Fx w K mg) : Cal P w K mg base 6 "_law_family_holds" [] f__law_family_holds := by
  obtain ⟨a, fd, F, hm⟩ := Z.d__law_family_holds
  exact cal_n (ps := P__law_family_holds) F (FunV F sc__law_family_holds fun cdv A outer s H bd => r__law_family_holds Z (k__law_due Z) (k__law_far Z) (k__law_order Z) (k_family Z) (k_hangs Z) (k_near Z) (k_pieces_of Z) (k_relabelled Z) bd) hm fun _ _ _ _ _ _ us hl => match us, hl with | [_, _, _], _ => rfl
theorem k__law_least (Z : Fx w K mg) : Cal P w K mg base 1 "_law_least" [] f__law_least := by
  obtain ⟨a, fd, F, hm⟩ := Z.d__law_least
  exact cal_n (ps := P__law_least) F (FunV F sc__law_least fun cdv A outer s H bd => r__law_least Z bd) hm fun _ _ _ _ _ _ us hl => match us, hl with | [], _ => rfl
theorem k__law_most (Z : Fx w K mg) : Cal P w K mg base 1 "_law_most" [] f__law_most := by
  obtain ⟨a, fd, F, hm⟩ := Z.d__law_most
  exact cal_n (ps := P__law_most) F (FunV F sc__law_most fun cdv A outer s H bd => r__law_most Z bd) hm fun _ _ _ _ _ _ us hl => match us, hl with | [_], _ => rfl
theorem k__law_petersen_holds (Z : Fx w K mg) : Cal P w K mg base 6 "_law_petersen_holds" [] f__law_petersen_holds := by
  obtain ⟨a, fd, F, hm⟩ := Z.d__law_petersen_holds
  exact cal_n (ps := P__law_petersen_holds) F (FunV F sc__law_petersen_holds fun cdv A outer s H bd => r__law_petersen_holds Z (k__law_order Z) (k_family Z) (k_near Z) (k_relabelled Z) bd) hm fun _ _ _ _ _ _ us hl => match us, hl with | [_], _ => rfl
theorem k__law_start (Z : Fx w K mg) : Cal P w K mg base 1 "_law_start" [] f__law_start := by
  obtain ⟨a, fd, F, hm⟩ := Z.d__law_start
  exact cal_n (ps := P__law_start) F (FunV F sc__law_start fun cdv A outer s H bd => r__law_start Z bd) hm fun _ _ _ _ _ _ us hl => match us, hl with | [_], _ => rfl
theorem k_law (Z : Fx w K mg) : Cal P w K mg base 7 "law" [] f_law := by
  obtain ⟨a, fd, F, hm⟩ := Z.d_law
  exact cal_n (ps := P_law) F (FunV F sc_law fun cdv A outer s H bd => r_law Z (k__law_draw Z) (k__law_family_holds Z) (k__law_least Z) (k__law_most Z) (k__law_petersen_holds Z) (k__law_start Z) bd) hm fun _ _ _ _ _ _ us hl => match us, hl with | [_], _ => rfl
end
theorem law_v {P : Program} {w : World} {K : PySem.W.Frag} {mg : Str → Option Value} {base : Heap} (Z : Fx w K mg) {a : Addr} {fd : FuncData} (F : FnD K "law" st_law [] a fd) : FnV P w K mg base 7 a fd P_law f_law := FunV F sc_law fun cdv A outer s H bd => r_law Z (k__law_draw Z) (k__law_family_holds Z) (k__law_least Z) (k__law_most Z) (k__law_petersen_holds Z) (k__law_start Z) bd
/-! ### the head -/
abbrev DEFS : List (Str × Stmt × List He.Dv) := ("_law_draw", st__law_draw, []) :: ("_law_digits", st__law_digits, []) :: ("_law_round", st__law_round, []) :: ("_law_due", st__law_due, []) :: ("_law_far", st__law_far, []) :: ("_law_order", st__law_order, []) :: ("edge_in", st_edge_in, []) :: ("graph_in", st_graph_in, []) :: ("all_pairs", st_all_pairs, []) :: ("cube_pairs", st_cube_pairs, []) :: ("grid_pairs", st_grid_pairs, []) :: ("ring_pairs", st_ring_pairs, []) :: ("named_pairs", st_named_pairs, []) :: ("path_pairs", st_path_pairs, []) :: ("points_of", st_points_of, []) :: ("sided_pairs", st_sided_pairs, []) :: ("pairs_of", st_pairs_of, []) :: ("family_in", st_family_in, []) :: ("is_integer", st_is_integer, []) :: ("family", st_family, []) :: ("are_points", st_are_points, []) :: ("is_edge", st_is_edge, []) :: ("is_graph", st_is_graph, []) :: ("check_graph", st_check_graph, [He.Dv.str "graph"]) :: ("near_in", st_near_in, []) :: ("reached_in", st_reached_in, []) :: ("pieces_among", st_pieces_among, []) :: ("hangs_in", st_hangs_in, []) :: ("hangs", st_hangs, []) :: ("near", st_near, []) :: ("pieces_in", st_pieces_in, []) :: ("pieces_of", st_pieces_of, []) :: ("relabelled_in", st_relabelled_in, []) :: ("relabelled", st_relabelled, []) :: ("_law_family_holds", st__law_family_holds, []) :: ("_law_least", st__law_least, []) :: ("_law_most", st__law_most, []) :: ("_law_petersen_holds", st__law_petersen_holds, []) :: ("_law_start", st__law_start, []) :: ("law", st_law, []) :: []
def fn : List He.DefD := DEFS.map fun q => ⟨(q.1, none), q.1, q.1, defArgs q.2.1, defBody q.2.1, defScope q.2.1, q.2.2, []⟩
def fa : List He.Fa := .glo "_law_draw" :: .glo "_law_digits" :: .glo "_law_round" :: .glo "_law_due" :: .glo "_law_far" :: .glo "_law_order" :: .glo "edge_in" :: .glo "graph_in" :: .glo "all_pairs" :: .glo "cube_pairs" :: .glo "grid_pairs" :: .glo "ring_pairs" :: .glo "named_pairs" :: .glo "path_pairs" :: .glo "points_of" :: .glo "sided_pairs" :: .glo "pairs_of" :: .glo "family_in" :: .glo "is_integer" :: .glo "family" :: .glo "are_points" :: .glo "is_edge" :: .glo "is_graph" :: .glo "check_graph" :: .glo "near_in" :: .glo "reached_in" :: .glo "pieces_among" :: .glo "hangs_in" :: .glo "hangs" :: .glo "near" :: .glo "pieces_in" :: .glo "pieces_of" :: .glo "relabelled_in" :: .glo "relabelled" :: .glo "_law_family_holds" :: .glo "_law_least" :: .glo "_law_most" :: .glo "_law_petersen_holds" :: .glo "_law_start" :: .glo "law" :: .free "abs" :: .free "all" :: .free "bool" :: .free "dict" :: .free "int" :: .free "isinstance" :: .free "len" :: .free "list" :: .free "min" :: .free "range" :: .free "sorted" :: .free "str" :: .free "tuple" :: .free "zip" :: .int "MAX_POINTS" (20) :: []
abbrev R : PySem.W.OpenRow := PySem.W.OpenLaw.row PySem.Challenge.rw_partsbarred_k70_families_by_distances
def CS : List Cn := [.tab "LEAST" T_LEAST]
abbrev hk : PySem.W.Hook := hookX 4 fa fn CS
def ob (s : PySem.W.SharedT) : AlX := obsXG 4 fa fn CS (HandSHeadRun.getT s)
theorem ob_eq (s : PySem.W.SharedT) : ob s = hk.obs s.abs := obsXG_eq (HandSHeadRun.getT_eq s)
def loose : List Str := (["PartError", "ArgumentError", "is_integer", "MAX_POINTS", "is_edge", "is_graph", "check_graph", "are_points", "edge_in", "graph_in", "near_in", "near", "reached_in", "pieces_among", "pieces_in", "pieces_of", "hangs_in", "hangs", "relabelled_in", "relabelled", "LEAST", "points_of", "ring_pairs", "path_pairs", "all_pairs", "sided_pairs", "grid_pairs", "cube_pairs", "pairs_of", "named_pairs"] : List Str) ++ (["family_in", "family", "_law_start", "_law_draw", "_law_order", "_law_far", "_law_round", "_law_digits", "_law_due", "_law_least", "_law_most", "_law_family_holds", "_law_petersen_holds"] : List Str)
theorem run (w : World) : HandSHeadRun.RunEq R (PySem.W.view R.prog [48]) hk ob 4000 loose w :=
  PySem.W.byRow2 "special-get-raises" (P := fun w => HandSHeadRun.RunEq R (PySem.W.view R.prog [48]) hk ob 4000 loose w) (fun w => by intro os; kernel_rfl) (fun w => by intro os; kernel_rfl) w
theorem fx_of {w : World} {K : PySem.W.Frag} {h : Heap} {mg : Str → Option Value} (X : K.In h) (G : h.Ns mainGlobals mg) (cc : SaysX fa fn CS w K) : Fx w K mg := by
  have c := cc.d
  exact {
  d__law_draw := let ⟨fd, F⟩ := c.def_ 0 rfl; ⟨_, fd, F, He.glo_ok X G (c.fact 0 (f := .glo "_law_draw") rfl)⟩
  d__law_digits := let ⟨fd, F⟩ := c.def_ 1 rfl; ⟨_, fd, F, He.glo_ok X G (c.fact 1 (f := .glo "_law_digits") rfl)⟩
  d__law_round := let ⟨fd, F⟩ := c.def_ 2 rfl; ⟨_, fd, F, He.glo_ok X G (c.fact 2 (f := .glo "_law_round") rfl)⟩
  d__law_due := let ⟨fd, F⟩ := c.def_ 3 rfl; ⟨_, fd, F, He.glo_ok X G (c.fact 3 (f := .glo "_law_due") rfl)⟩
  d__law_far := let ⟨fd, F⟩ := c.def_ 4 rfl; ⟨_, fd, F, He.glo_ok X G (c.fact 4 (f := .glo "_law_far") rfl)⟩
  d__law_order := let ⟨fd, F⟩ := c.def_ 5 rfl; ⟨_, fd, F, He.glo_ok X G (c.fact 5 (f := .glo "_law_order") rfl)⟩
  d_edge_in := let ⟨fd, F⟩ := c.def_ 6 rfl; ⟨_, fd, F, He.glo_ok X G (c.fact 6 (f := .glo "edge_in") rfl)⟩
  d_graph_in := let ⟨fd, F⟩ := c.def_ 7 rfl; ⟨_, fd, F, He.glo_ok X G (c.fact 7 (f := .glo "graph_in") rfl)⟩
  d_all_pairs := let ⟨fd, F⟩ := c.def_ 8 rfl; ⟨_, fd, F, He.glo_ok X G (c.fact 8 (f := .glo "all_pairs") rfl)⟩
  d_cube_pairs := let ⟨fd, F⟩ := c.def_ 9 rfl; ⟨_, fd, F, He.glo_ok X G (c.fact 9 (f := .glo "cube_pairs") rfl)⟩
  d_grid_pairs := let ⟨fd, F⟩ := c.def_ 10 rfl; ⟨_, fd, F, He.glo_ok X G (c.fact 10 (f := .glo "grid_pairs") rfl)⟩
  d_ring_pairs := let ⟨fd, F⟩ := c.def_ 11 rfl; ⟨_, fd, F, He.glo_ok X G (c.fact 11 (f := .glo "ring_pairs") rfl)⟩
  d_named_pairs := let ⟨fd, F⟩ := c.def_ 12 rfl; ⟨_, fd, F, He.glo_ok X G (c.fact 12 (f := .glo "named_pairs") rfl)⟩
  d_path_pairs := let ⟨fd, F⟩ := c.def_ 13 rfl; ⟨_, fd, F, He.glo_ok X G (c.fact 13 (f := .glo "path_pairs") rfl)⟩
  d_points_of := let ⟨fd, F⟩ := c.def_ 14 rfl; ⟨_, fd, F, He.glo_ok X G (c.fact 14 (f := .glo "points_of") rfl)⟩
  d_sided_pairs := let ⟨fd, F⟩ := c.def_ 15 rfl; ⟨_, fd, F, He.glo_ok X G (c.fact 15 (f := .glo "sided_pairs") rfl)⟩
  d_pairs_of := let ⟨fd, F⟩ := c.def_ 16 rfl; ⟨_, fd, F, He.glo_ok X G (c.fact 16 (f := .glo "pairs_of") rfl)⟩
  d_family_in := let ⟨fd, F⟩ := c.def_ 17 rfl; ⟨_, fd, F, He.glo_ok X G (c.fact 17 (f := .glo "family_in") rfl)⟩
  d_is_integer := let ⟨fd, F⟩ := c.def_ 18 rfl; ⟨_, fd, F, He.glo_ok X G (c.fact 18 (f := .glo "is_integer") rfl)⟩
  d_family := let ⟨fd, F⟩ := c.def_ 19 rfl; ⟨_, fd, F, He.glo_ok X G (c.fact 19 (f := .glo "family") rfl)⟩
  d_are_points := let ⟨fd, F⟩ := c.def_ 20 rfl; ⟨_, fd, F, He.glo_ok X G (c.fact 20 (f := .glo "are_points") rfl)⟩
  d_is_edge := let ⟨fd, F⟩ := c.def_ 21 rfl; ⟨_, fd, F, He.glo_ok X G (c.fact 21 (f := .glo "is_edge") rfl)⟩
  d_is_graph := let ⟨fd, F⟩ := c.def_ 22 rfl; ⟨_, fd, F, He.glo_ok X G (c.fact 22 (f := .glo "is_graph") rfl)⟩
  d_check_graph := let ⟨fd, F⟩ := c.def_ 23 rfl; ⟨_, fd, F, He.glo_ok X G (c.fact 23 (f := .glo "check_graph") rfl)⟩
  d_near_in := let ⟨fd, F⟩ := c.def_ 24 rfl; ⟨_, fd, F, He.glo_ok X G (c.fact 24 (f := .glo "near_in") rfl)⟩
  d_reached_in := let ⟨fd, F⟩ := c.def_ 25 rfl; ⟨_, fd, F, He.glo_ok X G (c.fact 25 (f := .glo "reached_in") rfl)⟩
  d_pieces_among := let ⟨fd, F⟩ := c.def_ 26 rfl; ⟨_, fd, F, He.glo_ok X G (c.fact 26 (f := .glo "pieces_among") rfl)⟩
  d_hangs_in := let ⟨fd, F⟩ := c.def_ 27 rfl; ⟨_, fd, F, He.glo_ok X G (c.fact 27 (f := .glo "hangs_in") rfl)⟩
  d_hangs := let ⟨fd, F⟩ := c.def_ 28 rfl; ⟨_, fd, F, He.glo_ok X G (c.fact 28 (f := .glo "hangs") rfl)⟩
  d_near := let ⟨fd, F⟩ := c.def_ 29 rfl; ⟨_, fd, F, He.glo_ok X G (c.fact 29 (f := .glo "near") rfl)⟩
  d_pieces_in := let ⟨fd, F⟩ := c.def_ 30 rfl; ⟨_, fd, F, He.glo_ok X G (c.fact 30 (f := .glo "pieces_in") rfl)⟩
  d_pieces_of := let ⟨fd, F⟩ := c.def_ 31 rfl; ⟨_, fd, F, He.glo_ok X G (c.fact 31 (f := .glo "pieces_of") rfl)⟩
  d_relabelled_in := let ⟨fd, F⟩ := c.def_ 32 rfl; ⟨_, fd, F, He.glo_ok X G (c.fact 32 (f := .glo "relabelled_in") rfl)⟩
  d_relabelled := let ⟨fd, F⟩ := c.def_ 33 rfl; ⟨_, fd, F, He.glo_ok X G (c.fact 33 (f := .glo "relabelled") rfl)⟩
  d__law_family_holds := let ⟨fd, F⟩ := c.def_ 34 rfl; ⟨_, fd, F, He.glo_ok X G (c.fact 34 (f := .glo "_law_family_holds") rfl)⟩
  d__law_least := let ⟨fd, F⟩ := c.def_ 35 rfl; ⟨_, fd, F, He.glo_ok X G (c.fact 35 (f := .glo "_law_least") rfl)⟩
  d__law_most := let ⟨fd, F⟩ := c.def_ 36 rfl; ⟨_, fd, F, He.glo_ok X G (c.fact 36 (f := .glo "_law_most") rfl)⟩
  d__law_petersen_holds := let ⟨fd, F⟩ := c.def_ 37 rfl; ⟨_, fd, F, He.glo_ok X G (c.fact 37 (f := .glo "_law_petersen_holds") rfl)⟩
  d__law_start := let ⟨fd, F⟩ := c.def_ 38 rfl; ⟨_, fd, F, He.glo_ok X G (c.fact 38 (f := .glo "_law_start") rfl)⟩
  d_law := let ⟨fd, F⟩ := c.def_ 39 rfl; ⟨_, fd, F, He.glo_ok X G (c.fact 39 (f := .glo "law") rfl)⟩
  n_abs := He.free_ok X G (c.fact 40 (f := .free "abs") rfl)
  n_all := He.free_ok X G (c.fact 41 (f := .free "all") rfl)
  n_bool := He.free_ok X G (c.fact 42 (f := .free "bool") rfl)
  n_dict := He.free_ok X G (c.fact 43 (f := .free "dict") rfl)
  n_int := He.free_ok X G (c.fact 44 (f := .free "int") rfl)
  n_isinstance := He.free_ok X G (c.fact 45 (f := .free "isinstance") rfl)
  n_len := He.free_ok X G (c.fact 46 (f := .free "len") rfl)
  n_list := He.free_ok X G (c.fact 47 (f := .free "list") rfl)
  n_min := He.free_ok X G (c.fact 48 (f := .free "min") rfl)
  n_range := He.free_ok X G (c.fact 49 (f := .free "range") rfl)
  n_sorted := He.free_ok X G (c.fact 50 (f := .free "sorted") rfl)
  n_str := He.free_ok X G (c.fact 51 (f := .free "str") rfl)
  n_tuple := He.free_ok X G (c.fact 52 (f := .free "tuple") rfl)
  n_zip := He.free_ok X G (c.fact 53 (f := .free "zip") rfl)
  i_MAX_POINTS := He.int_ok X G (c.fact 54 (f := .int "MAX_POINTS" (20)) rfl)
  t_LEAST := con_tab X G cc (cc.con 0) 0
  }
end VMP

/-! GX1: lists of graphs, rows, dicts of pairs: what later laws use again (taken out of the K79 texts) -/
namespace VM
open PySem PySem.Spec PyProof.Rows L2
/-! ### graphs -/
def allP (n : Nat) : List (Nat × Nat) := (List.range n).flatMap fun x => ((List.range n).filter fun y => decide (x < y)).map fun y => (x, y)
theorem mem_allP {n x y : Nat} : (x, y) ∈ allP n ↔ x < y ∧ y < n := by
  unfold allP
  simp only [List.mem_flatMap, List.mem_range, List.mem_map, List.mem_filter, decide_eq_true_eq, Prod.mk.injEq]
  constructor
  · rintro ⟨a, ha, b, ⟨hb, hab⟩, rfl, rfl⟩
    exact ⟨hab, hb⟩
  · rintro ⟨h1, h2⟩
    exact ⟨x, by omega, y, ⟨h2, h1⟩, rfl, rfl⟩
theorem allP_up (n : Nat) : (allP n).Pairwise ltP := by
  unfold allP
  rw [List.pairwise_flatMap]
  refine ⟨fun x _ => ?_, ?_⟩
  · rw [List.pairwise_map]
    exact (List.pairwise_lt_range.filter _).imp fun q => .inr ⟨rfl, q⟩
  · exact List.pairwise_lt_range.imp fun {a b} q x hx y hy => by
      obtain ⟨u, _, rfl⟩ := List.mem_map.mp hx
      obtain ⟨v, _, rfl⟩ := List.mem_map.mp hy
      exact .inl q
theorem flat_len {α β : Type} {f : α → List β} {k : Nat} (h : ∀ a, (f a).length ≤ k) : ∀ l : List α, (l.flatMap f).length ≤ l.length * k
  | [] => by simp
  | a :: l => by
    rw [List.flatMap_cons, List.length_append, List.length_cons, Nat.succ_mul]
    have := h a
    have := flat_len h l
    omega
theorem allP_len (n : Nat) : (allP n).length ≤ n * n := by
  have := flat_len (f := fun x => ((List.range n).filter fun y => decide (x < y)).map fun y => (x, y)) (k := n) (fun a => by rw [List.length_map]; exact Nat.le_trans (List.length_filter_le _ _) (by rw [List.length_range]; exact Nat.le_refl _)) (List.range n)
  rw [List.length_range] at this
  exact this
abbrev Adj := Nat → Nat → Bool
/-- near is mutual, no point is near itself -/
structure Gr (A : Adj) : Prop where
  irr : ∀ x, A x x = false
  sym : ∀ x y, A x y = A y x
def EL (n : Nat) (A : Adj) : List (Nat × Nat) := (allP n).filter fun p => A p.1 p.2
theorem mem_EL {n x y : Nat} {A : Adj} : (x, y) ∈ EL n A ↔ (x < y ∧ y < n) ∧ A x y = true := by
  unfold EL
  rw [List.mem_filter, mem_allP]
theorem EL_up (n : Nat) (A : Adj) : (EL n A).Pairwise ltP := (allP_up n).filter _
theorem EL_nd (n : Nat) (A : Adj) : (EL n A).Nodup := (EL_up n A).imp fun {a b} q (e : a = b) => by subst e; unfold ltP at q; omega
theorem EL_len (n : Nat) (A : Adj) : (EL n A).length ≤ n * n := Nat.le_trans (List.length_filter_le _ _) (allP_len n)
theorem EL_is {n : Nat} {A : Adj} {L : List (Nat × Nat)} (up : L.Pairwise ltP) (h : ∀ x y, (x, y) ∈ L ↔ (x < y ∧ y < n) ∧ A x y = true) : L = EL n A :=
  rise_eq (fun a q => by unfold ltP at q; omega) (fun a b q r => by unfold ltP at q r; omega) up (EL_up n A) fun p => by rw [show p = (p.1, p.2) from rfl, mem_EL]; exact h p.1 p.2
theorem EL_sort {n : Nat} {A : Adj} {L : List (Nat × Nat)} (nd : L.Nodup) (h : ∀ x y, (x, y) ∈ L ↔ (x < y ∧ y < n) ∧ A x y = true) : L.mergeSort leP = EL n A :=
  sort_pr nd (EL_up n A) fun p => by rw [show p = (p.1, p.2) from rfl, mem_EL]; exact h p.1 p.2
def gD (n : Nat) (A : Adj) : D := .tup [.int (n : Int), .tup (prD (EL n A))]
def nbr (n : Nat) (A : Adj) (v : Nat) : List Nat := (List.range n).filter (A v)
theorem mem_nbr {n v x : Nat} {A : Adj} : x ∈ nbr n A v ↔ x < n ∧ A v x = true := by
  unfold nbr
  rw [List.mem_filter, List.mem_range]
theorem nbr_up (n : Nat) (A : Adj) (v : Nat) : (nbr n A v).Pairwise (· < ·) := List.pairwise_lt_range.filter _
theorem nbr_len (n : Nat) (A : Adj) (v : Nat) : (nbr n A v).length ≤ n := Nat.le_trans (List.length_filter_le _ _) (by rw [List.length_range]; exact Nat.le_refl _)
/-- what stands beside v in a row of edges -/
def beside (L : List (Nat × Nat)) (v : Nat) : List Nat := L.filterMap fun p => if p.1 = v then some p.2 else if p.2 = v then some p.1 else none
theorem mem_beside {L : List (Nat × Nat)} {v x : Nat} : x ∈ beside L v ↔ (v, x) ∈ L ∨ ((x, v) ∈ L ∧ (x = v → False) ∨ (x, v) ∈ L ∧ x = v) := by
  unfold beside
  rw [List.mem_filterMap]
  constructor
  · rintro ⟨⟨a, b⟩, hm, h⟩
    dsimp only at h
    split at h
    · rename_i e
      obtain rfl := Option.some.inj h
      subst e
      exact .inl hm
    · split at h
      · rename_i e1 e
        obtain rfl := Option.some.inj h
        subst e
        exact .inr (.inl ⟨hm, e1⟩)
      · cases h
  · rintro (h | ⟨h, hn⟩ | ⟨h, rfl⟩)
    · exact ⟨_, h, by simp⟩
    · exact ⟨_, h, by dsimp only; rw [if_neg hn, if_pos rfl]⟩
    · exact ⟨_, h, by simp⟩
theorem beside_sort {n v : Nat} {A : Adj} (g : Gr A) (hv : v < n) : (beside (EL n A) v).mergeSort leN = nbr n A v := by
  refine sort_nat ?_ (nbr_up n A v) fun x => ?_
  · unfold beside
    refine List.Pairwise.filterMap _ ?_ (List.Pairwise.and_mem.mp (EL_up n A))
    rintro ⟨a, b⟩ ⟨c, d⟩ ⟨h1, h2, h3⟩ x hx y hy e
    rw [mem_EL] at h1 h2
    subst e
    unfold ltP at h3
    dsimp only at hx hy h3
    split at hx
    · obtain rfl := Option.some.inj hx
      split at hy
      · obtain rfl := Option.some.inj hy
        omega
      · split at hy
        · obtain rfl := Option.some.inj hy
          omega
        · cases hy
    · split at hx
      · obtain rfl := Option.some.inj hx
        split at hy
        · obtain rfl := Option.some.inj hy
          omega
        · split at hy
          · obtain rfl := Option.some.inj hy
            omega
          · cases hy
      · cases hx
  · rw [mem_nbr, mem_beside, mem_EL, mem_EL]
    constructor
    · rintro (⟨⟨h1, h2⟩, h3⟩ | ⟨⟨⟨h1, h2⟩, h3⟩, _⟩ | ⟨⟨⟨h1, h2⟩, h3⟩, _⟩)
      · exact ⟨h2, h3⟩
      · exact ⟨by omega, by rw [g.sym]; exact h3⟩
      · exact ⟨by omega, by rw [g.sym]; exact h3⟩
    · rintro ⟨h1, h2⟩
      have ne : x ≠ v := fun e => by rw [e, g.irr] at h2; cases h2
      rcases Nat.lt_or_ge v x with h | h
      · exact .inl ⟨⟨h, h1⟩, h2⟩
      · exact .inr (.inl ⟨⟨⟨by omega, hv⟩, by rw [g.sym]; exact h2⟩, ne⟩)
end VM

namespace VM
open PySem PySem.Spec PyProof.Rows L2
/-! ### a dict of pairs -/
def pk (p : Nat × Nat) : NestedKey := .tup [.num (p.1 : Int), .num (p.2 : Int)]
theorem key_eD {p : Nat × Nat} : D.key (eD p) = some (pk p) := rfl
theorem keyD_pk {p : Nat × Nat} : keyD (pk p) = eD p := rfl
theorem pk_inj {p q : Nat × Nat} : pk p = pk q ↔ p = q := by
  constructor
  · intro h
    have h2 := congrArg keyD h
    rw [keyD_pk, keyD_pk] at h2
    exact eD_inj.mp h2
  · rintro rfl; rfl
theorem pk_depth {p : Nat × Nat} : (pk p).depth ≤ 8 := by simp [pk, NestedKey.depth, NestedKey.depthAll]
def kvD (L : List (Nat × Nat)) : KV' := L.map fun p => (pk p, D.bl true)
@[simp] theorem kvD_length {L : List (Nat × Nat)} : (kvD L).length = L.length := by unfold kvD; rw [List.length_map]
@[simp] theorem kvD_nil : kvD [] = [] := rfl
theorem kvD_fits {L : List (Nat × Nat)} {p : Nat × Nat} : fits (kvD L) (pk p) = true := by
  unfold fits kvD
  rw [Bool.and_eq_true, List.all_map]
  refine ⟨?_, decide_eq_true pk_depth⟩
  rw [List.all_eq_true]
  intro q _
  rfl
theorem kvD_get {L : List (Nat × Nat)} {p : Nat × Nat} : dget (kvD L) (pk p) = if p ∈ L then some (.bl true) else none := by
  induction L with
  | nil => rfl
  | cons q L ih =>
    unfold dget kvD at ih ⊢
    rw [List.map_cons, List.find?_cons]
    by_cases h : q = p
    · subst h
      simp
    · have h2 : decide (pk q = pk p) = false := by simp [pk_inj, h]
      have h3 : ¬ p = q := fun e => h e.symm
      simp only [h2, List.mem_cons, h3, false_or]
      exact ih
theorem kvD_put {L : List (Nat × Nat)} {p : Nat × Nat} : dput (kvD L) (pk p) (.bl true) = if p ∈ L then kvD L else kvD (L ++ [p]) := by
  unfold dput
  rw [kvD_get]
  by_cases h : p ∈ L
  · simp only [h, if_true, Option.isSome_some]
    unfold kvD
    rw [List.map_map]
    refine List.map_congr_left fun q _ => ?_
    dsimp only [Function.comp]
    split
    · rename_i e
      rw [e]
    · rfl
  · simp only [h, if_false, Option.isSome_none]
    unfold kvD
    rw [List.map_append]
    rfl
theorem kvD_drop {L : List (Nat × Nat)} {p : Nat × Nat} : ddrop (kvD L) (pk p) = kvD (L.filter fun q => decide (q ≠ p)) := by
  unfold ddrop kvD
  rw [List.filter_map]
  congr 1
  refine List.filter_congr fun q _ => ?_
  simp [pk_inj]
theorem keysD_kvD {L : List (Nat × Nat)} : keysD (kvD L) = prD L := by
  unfold keysD kvD prD
  rw [List.map_map]
  rfl
def tog (L : List (Nat × Nat)) (p : Nat × Nat) : List (Nat × Nat) := if p ∈ L then L.filter fun q => decide (q ≠ p) else L ++ [p]
theorem mem_tog {L : List (Nat × Nat)} {p q : Nat × Nat} : decide (q ∈ tog L p) = (decide (q ∈ L) ^^ decide (q = p)) := by
  unfold tog
  by_cases h : p ∈ L
  · rw [if_pos h]
    by_cases e : q = p
    · subst e; simp [h]
    · simp [e]
  · rw [if_neg h]
    by_cases e : q = p
    · subst e; simp [h]
    · simp [e]
theorem nd_tog {L : List (Nat × Nat)} {p : Nat × Nat} (h : L.Nodup) : (tog L p).Nodup := by
  unfold tog
  split
  · exact h.filter _
  · rename_i e
    rw [List.nodup_append]
    exact ⟨h, by simp, fun a ha b hb => by rw [List.mem_singleton] at hb; subst hb; exact fun z => e (z ▸ ha)⟩
theorem len_tog {L : List (Nat × Nat)} {p : Nat × Nat} : (tog L p).length ≤ L.length + 1 := by
  unfold tog
  split
  · exact Nat.le_succ_of_le (List.length_filter_le _ _)
  · rw [List.length_append]; exact Nat.le_refl _
section
variable {S : Store} {l : Nat} {L : List (Nat × Nat)} {p : Nat × Nat} {Q : D → Store → Prop}
theorem look_kvD (h : S[l]? = some (.dct (kvD L))) : lookD S (.dct l) (eD p) = some (if p ∈ L then some (.bl true) else none) := by
  have e : dictOf S (.dct l) = some (kvD L) := by unfold dictOf; simp only [h]
  unfold lookD
  rw [e, key_eD]
  dsimp only
  rw [if_pos kvD_fits, kvD_get]
theorem ok_inDict (h : S[l]? = some (.dct (kvD L))) : Ok (inA (eD p) (.dct l)) S Q ↔ Q (.bl (decide (p ∈ L))) S := by
  refine ok_iff ?_
  show (lookD S (.dct l) (eD p)).map _ = _
  rw [look_kvD h]
  by_cases c : p ∈ L <;> simp [c]
theorem ok_popDict (h : S[l]? = some (.dct (kvD L))) (hp : p ∈ L) : Ok (popM (.dct l) [eD p]) S Q ↔ Q (.bl true) (S.set l (.dct (kvD (tog L p)))) := by
  refine ok_iff ?_
  show popD l (eD p) S = _
  unfold popD
  rw [h, key_eD]
  dsimp only
  rw [if_pos kvD_fits, kvD_get, if_pos hp, kvD_drop]
  unfold tog
  rw [if_pos hp]
  rfl
theorem ok_setDict {Q : Unit → Store → Prop} (h : S[l]? = some (.dct (kvD L))) (hp : p ∉ L) (hl : L.length < lim) : Ok (setA (.dct l) (eD p) (.bl true)) S Q ↔ Q () (S.set l (.dct (kvD (tog L p)))) := by
  refine ok_iff ?_
  show (match S[l]?, D.key (eD p) with
    | some (.dct kvs), some nk => if fits kvs nk = true ∧ kvs.length < lim then some ((), S.set l (.dct (dput kvs nk (.bl true)))) else none
    | _, _ => none) = _
  rw [h, key_eD]
  dsimp only
  rw [if_pos ⟨kvD_fits, by rw [kvD_length]; exact hl⟩, kvD_put, if_neg hp]
  unfold tog
  rw [if_neg hp]
theorem ok_enumL {ds : List D} {QI : List D × Lv → Store → Prop} (h : S[l]? = some (.lst ds)) : Ok (enumA [.lst l]) S QI ↔ QI (numD 0 ds, [(l, .lst ds)]) S := by
  refine ok_iff ?_
  show (match seqLv S (.lst l) with
    | some (xs, l1) => some ((numD 0 xs, l1), S)
    | none => none) = _
  rw [seqLv_lst h]
@[simp] theorem ok_tupLs : Ok (fTuple [.lst l]) S Q ↔ ∃ ds, S[l]? = some (.lst ds) ∧ Q (.tup ds) S := by
  constructor
  · rintro ⟨d, S', e, q⟩
    obtain ⟨ds, h1, h2⟩ := Option.map_eq_some_iff.mp (show (seqOf S (.lst l)).map (fun ds => (D.tup ds, S)) = some (d, S') from e)
    obtain ⟨rfl, rfl⟩ := Prod.mk.inj h2
    cases h : S[l]? with
    | none => rw [show seqOf S (.lst l) = none by unfold seqOf; simp only [h]] at h1; cases h1
    | some o =>
      cases o with
      | dct _ => rw [show seqOf S (.lst l) = none by unfold seqOf; simp only [h]] at h1; cases h1
      | dlk _ => rw [show seqOf S (.lst l) = none by unfold seqOf; simp only [h]] at h1; cases h1
      | lst es =>
        rw [seq_lst h] at h1
        obtain rfl := Option.some.inj h1
        exact ⟨_, rfl, q⟩
  · rintro ⟨ds, h, q⟩
    exact (ok_tupL h).mpr q
theorem rowOf_dict (h : S[l]? = some (.dct (kvD L))) : rowOf S (.dct l) = some (prD L) := by
  unfold rowOf
  simp only [h]
  rw [keysD_kvD]
end
end VM

namespace VMP
open PySem PySem.Spec PyProof.Rows L2 VM

def lstsD (c n : Nat) : List D := (List.range n).map fun j => D.lst (c + j)
theorem lstsD_get {c n v : Nat} (h : v < n) : (lstsD c n)[v]? = some (.lst (c + v)) := by
  unfold lstsD
  rw [List.getElem?_map, List.getElem?_range h]
  rfl
@[simp] theorem lstsD_length {c n : Nat} : (lstsD c n).length = n := by unfold lstsD; rw [List.length_map, List.length_range]
theorem lstsD_succ {c i : Nat} : lstsD c (i + 1) = lstsD c i ++ [.lst (c + i)] := by unfold lstsD; rw [List.range_succ, List.map_append]; rfl
theorem lstsD_split {c n : Nat} {pre post : List D} {d : D} (h : lstsD c n = pre ++ d :: post) : pre.length < n ∧ d = .lst (c + pre.length) ∧ pre = lstsD c pre.length := by
  have hl : pre.length < n := by
    have := congrArg List.length h
    rw [lstsD_length, List.length_append, List.length_cons] at this
    omega
  have hd : (lstsD c n)[pre.length]? = some d := by rw [h, List.getElem?_append_right (Nat.le_refl _), Nat.sub_self]; rfl
  rw [lstsD_get hl] at hd
  refine ⟨hl, (Option.some.inj hd).symm, ?_⟩
  have ht : (lstsD c n).take pre.length = pre := by rw [h, List.take_left]
  rw [← ht, List.length_take, lstsD_length]
  unfold lstsD
  rw [← List.map_take, List.take_range]
theorem rowD_split {n : Nat} {pre post : List D} {d : D} (h : rowD 0 n = pre ++ d :: post) : pre.length < n ∧ d = .int (pre.length : Int) := by
  have hl : pre.length < n := by
    have := congrArg List.length h
    rw [rowD_len, List.length_append, List.length_cons] at this
    omega
  have hd : (rowD 0 n)[pre.length]? = some d := by rw [h, List.getElem?_append_right (Nat.le_refl _), Nat.sub_self]; rfl
  obtain ⟨_, e⟩ := rowD_get hd
  exact ⟨hl, by rw [e, Int.zero_add]⟩

end VMP
namespace VM
open PySem PySem.Spec PyProof.Rows L2
section
variable {S : Store} {ρ : VM.Env} {Q : D → Store → Prop} {ma mb : EM} {mk : List D → M D} {i j : Int}
@[simp] theorem ok_lRg : Ok (lRg mk (.int i) (.int j)) S Q ↔ okRg i j ∧ Ok (mk (rowD i (j - i).toNat)) S Q := by
  constructor
  · rintro ⟨d, S', e, q⟩
    obtain ⟨i', j', h1, h2, ok, e2⟩ := lRg_some e
    cases h1
    cases h2
    exact ⟨ok, d, S', e2, q⟩
  · rintro ⟨ok, d, S', e, q⟩
    exact ⟨d, S', by unfold lRg; dsimp only; rw [if_pos ok]; exact e, q⟩
@[simp] theorem ok_mRgL1 : Ok (mRgL1 ma ρ) S Q ↔ Ok (ma ρ) S fun a S1 => Ok (lRg mkL (.int 0) a) S1 Q := ok_bnd
@[simp] theorem ok_mRgT1 : Ok (mRgT1 ma ρ) S Q ↔ Ok (ma ρ) S fun a S1 => Ok (lRg mkT (.int 0) a) S1 Q := ok_bnd
@[simp] theorem ok_mRgL2 : Ok (mRgL2 ma mb ρ) S Q ↔ Ok (ma ρ) S fun a S1 => Ok (mb ρ) S1 fun b S2 => Ok (lRg mkL a b) S2 Q := by unfold mRgL2; simp only [ok_bnd]
@[simp] theorem ok_mRgT2 : Ok (mRgT2 ma mb ρ) S Q ↔ Ok (ma ρ) S fun a S1 => Ok (mb ρ) S1 fun b S2 => Ok (lRg mkT a b) S2 Q := by unfold mRgT2; simp only [ok_bnd]
@[simp] theorem ok_fListT {ds : List D} : Ok (fListA [.tup ds]) S Q ↔ Q (.lst S.length) (S ++ [.lst ds]) := ok_listOf rfl
theorem ok_compPick {α : Type} {vs : List Nat} {mi : IM} {g : GM} {t : TM} {me : EM} {lv : Lv} {f : α → D} {p : α → Bool} {h : α → D} {L : List α} (res : List D) (hi : Ok (mi ρ) S fun q S' => q = (L.map f, lv) ∧ S' = S) (hl : Live lv S)
    (hs : ∀ a ∈ L, ∀ N : Option D → Store → Prop, N (if p a = true then some (h a) else none) S → Ok (g (f a) (wipeE vs ρ)) S fun ρ1 S1 => Ok (t ρ1) S1 fun b S2 => if b = true then Ok (me ρ1) S2 fun y S3 => N (some y) S3 else N none S2)
    (hres : (L.filter p).map h = res) (hlen : res.length ≤ lim) (he : Q (.lst S.length) (S ++ [.lst res])) : Ok (mComp vs mi g t me ρ) S Q := by
  rw [ok_mComp]
  refine hi.imp fun q S' ⟨e1, e2⟩ => ?_
  subst e1 e2
  refine ok_pick hl hs ?_
  rw [hres, ok_mkL]
  exact ⟨hlen, he⟩
end
end VM
namespace VM
open PySem PySem.Spec PyProof.Rows L2
section
variable {S : Store} {Q : D → Store → Prop} {l m : Nat}
@[simp] theorem ok_mulLs {k : Int} : Ok (mulM (.lst l) (.int k)) S Q ↔ ∃ a, S[l]? = some (.lst a) ∧ (a.length * k.toNat ≤ lim ∧ -1000000 ≤ k ∧ k ≤ 1000000) ∧ Q (.lst S.length) (S ++ [.lst (List.replicate k.toNat a).flatten]) := by
  have e0 : mulM (.lst l) (.int k) S = (match S[l]? with
    | some (.lst a) => if a.length * k.toNat ≤ lim ∧ -1000000 ≤ k ∧ k ≤ 1000000 then some (D.lst S.length, S ++ [Ob.lst (List.replicate k.toNat a).flatten]) else none
    | _ => none) := rfl
  constructor
  · rintro ⟨d, S', e, q⟩
    rw [e0] at e
    split at e
    · rename_i ds h
      split at e
      · obtain ⟨rfl, rfl⟩ := Prod.mk.inj (Option.some.inj e)
        exact ⟨ds, h, by assumption, q⟩
      · cases e
    · cases e
  · rintro ⟨ds, h, h1, q⟩
    exact ⟨_, _, by rw [e0, h]; dsimp only; rw [if_pos h1], q⟩
@[simp] theorem ok_mulALs {k : Int} : Ok (mulA (.lst l) (.int k)) S Q ↔ ∃ a, S[l]? = some (.lst a) ∧ (a.length * k.toNat ≤ lim ∧ -1000000 ≤ k ∧ k ≤ 1000000) ∧ Q (.lst S.length) (S ++ [.lst (List.replicate k.toNat a).flatten]) := ok_mulLs
@[simp] theorem ok_eqS {x y : Str} : Ok (eqM (.str x) (.str y)) S Q ↔ Q (.bl (decide (x = y))) S := ok_ret
end
end VM
namespace VM
open PySem PySem.Spec PyProof.Rows L2
section
variable {S : Store} {Q : D → Store → Prop} {l : Nat}
@[simp] theorem isi_tt {ds : List D} : isiM "tuple" S (.tup ds) = some true := by
  have e : kitB "tuple" "tuple" = some true := by decide +kernel
  exact e
@[simp] theorem isi_ii {i : Int} : isiM "int" S (.int i) = some true := by
  have e : kitB "int" "int" = some true := by decide +kernel
  exact e
@[simp] theorem isi_ib {i : Int} : isiM "bool" S (.int i) = some false := by
  have e : kitB "int" "bool" = some false := by decide +kernel
  exact e
theorem bls_map : ∀ {bs : List Bool}, blsOf (bs.map D.bl) = some bs
  | [] => rfl
  | b :: bs => by
    show (blsOf (bs.map D.bl)).map (b :: ·) = _
    rw [bls_map]
    rfl
theorem ok_allL {bs : List Bool} (h : S[l]? = some (.lst (bs.map D.bl))) : Ok (fAll [.lst l]) S Q ↔ Q (.bl (bs.all id)) S := by
  refine ok_iff ?_
  show (match S[l]? with
    | some (.lst ds) => (blsOf ds).map fun (bs : List Bool) => (D.bl (bs.all id), S)
    | _ => none) = _
  rw [h]
  dsimp only
  rw [bls_map]
  rfl
theorem ok_anyL {bs : List Bool} (h : S[l]? = some (.lst (bs.map D.bl))) : Ok (fAny [.lst l]) S Q ↔ Q (.bl (bs.any id)) S := by
  refine ok_iff ?_
  show (match S[l]? with
    | some (.lst ds) => (blsOf ds).map fun (bs : List Bool) => (D.bl (bs.any id), S)
    | _ => none) = _
  rw [h]
  dsimp only
  rw [bls_map]
  rfl
@[simp] theorem ok_zipT {xs ys : List D} {QI : List D × Lv → Store → Prop} : Ok (zipM [.tup xs, .tup ys]) S QI ↔ QI (pairD xs ys, []) S := ok_iff rfl
@[simp] theorem cut_1 {ds : List D} : cutD ds (some 1) none = ds.drop 1 := cut_lo (k := 1)
theorem pairD_zip : ∀ {L M : List (Nat × Nat)}, pairD (VM.prD L) (VM.prD M) = (L.zip M).map fun z => D.pr [eD z.1, eD z.2]
  | [], M => by simp [pairD]
  | p :: L, [] => by simp [pairD]
  | p :: L, q :: M => by
    show D.pr [eD p, eD q] :: pairD (VM.prD L) (VM.prD M) = _
    rw [pairD_zip]
    rfl
theorem prD_drop {L : List (Nat × Nat)} {k : Nat} : (VM.prD L).drop k = VM.prD (L.drop k) := by unfold VM.prD; rw [List.map_drop]
instance {p q : Nat × Nat} : Decidable (ltP p q) := by unfold ltP; infer_instance
theorem ok_ltPr {p q : Nat × Nat} : Ok (ltM (eD p) (eD q)) S Q ↔ Q (.bl (decide (ltP p q))) S := by
  have e : ltM (eD p) (eD q) S = some (.bl (PySem.W.dataLt (pE p) (pE q)), S) := by
    unfold ltM
    rw [py_eD, py_eD]
    dsimp only
    rw [if_pos ⟨by simp [pE, PySem.W.alike, PySem.W.alikeAll], rfl⟩]
  rw [ok_iff e]
  unfold pE
  rw [PySem.W.dataLt_ii]
  have e2 : decide (((p.1 : Int) < (q.1 : Int)) ∨ ((p.1 : Int) = (q.1 : Int) ∧ (p.2 : Int) < (q.2 : Int))) = decide (ltP p q) := by
    refine decide_eq_decide.mpr ?_
    unfold ltP
    omega
  rw [e2]
/-- neighbours in a row that rises -/
theorem zip_up {L : List (Nat × Nat)} (up : L.Pairwise ltP) : ∀ z ∈ L.zip (L.drop 1), ltP z.1 z.2 := by
  induction up with
  | nil => intro z hz; simp at hz
  | @cons a L h t ih =>
    intro z hz
    cases L with
    | nil => simp at hz
    | cons b L =>
      simp only [List.drop_succ_cons, List.drop_zero, List.zip_cons_cons, List.mem_cons] at hz
      rcases hz with rfl | hz
      · exact h b (by simp)
      · exact ih z (by simpa using hz)
end
end VM

namespace VM
open PySem
theorem textFrom_le : ∀ (ts : List Str) (k : Nat) (acc : Str), (textFrom k acc ts).length ≤ acc.length + piled ts
  | [], k, acc => by show acc.length ≤ _; omega
  | t :: r, k, acc => by
    have ih := textFrom_le r (k + 1) (acc ++ (if k > 0 then ", " else "" : String) ++ t)
    have e : (acc ++ (if k > 0 then ", " else "" : String) ++ t).length = acc.length + (if k > 0 then 2 else 0) + t.length := by
      rw [strLen_append, strLen_append]
      split <;> rfl
    show (textFrom (k + 1) _ r).length ≤ _
    rw [piled_cons]
    rw [e] at ih
    have : (if k > 0 then 2 else 0 : Nat) ≤ 2 := by split <;> omega
    omega
theorem listText_le (ts : List Str) : (listText ts).length ≤ piled ts + 2 := by
  have h := textFrom_le ts 0 "["
  unfold listText
  rw [strLen_append]
  have e1 : (("[" : String) : Str).length = 1 := rfl
  have e2 : (("]" : String) : Str).length = 1 := rfl
  rw [e1] at h
  rw [e2]
  omega
theorem tupleText_le (ts : List Str) : (tupleText ts).length ≤ piled ts + 3 := by
  unfold tupleText
  rw [strLen_append, strLen_append]
  have e1 : (("(" : String) : Str).length = 1 := rfl
  have e2 : ((if ts.length == 1 then ",)" else ")" : String) : Str).length ≤ 2 := by split <;> decide
  rw [e1]
  cases ts with
  | nil =>
    have : (Str.join ", " []).length = 0 := rfl
    omega
  | cons t r =>
    have := join_length_add (t :: r) (by simp)
    omega
theorem shown_small : ∀ x : Nat, x < 21 → (PyData.shown (.int (x : Int))).length ≤ 2 := by decide +kernel
end VM

namespace VM
open PySem PySem.Spec PyProof.Rows L2
theorem piled_all {k : Nat} : ∀ {L : List PyData}, (∀ p ∈ L, p.shown.length ≤ k) → piled (PyData.shownAll L) ≤ L.length * (k + 2)
  | [], _ => by show piled [] ≤ _; simp [piled]
  | p :: L, h => by
    have ih := piled_all (k := k) (L := L) fun q hq => h q (List.mem_cons_of_mem _ hq)
    have h0 := h p List.mem_cons_self
    show piled (p.shown :: PyData.shownAll L) ≤ _
    rw [piled_cons, List.length_cons, Nat.succ_mul]
    omega
def pG (n : Nat) (A : Adj) : PyData := .tuple [.int (n : Int), .tuple ((EL n A).map pE)]
theorem py_gD {S : Store} {k n : Nat} {A : Adj} : D.py S (k + 4) (gD n A) = some (pG n A) := by
  show (pyL (D.py S (k + 3)) [.int (n : Int), .tup (VM.prD (EL n A))]).map PyData.tuple = _
  have e : D.py S (k + 3) (.tup (VM.prD (EL n A))) = some (.tuple ((EL n A).map pE)) := by
    show (pyL (D.py S (k + 2)) (VM.prD (EL n A))).map PyData.tuple = _
    rw [pyL_pr]
    rfl
  show ((match D.py S (k + 3) (.int (n : Int)), (match D.py S (k + 3) (.tup (VM.prD (EL n A))), some [] with
    | some p, some ps => some (p :: ps)
    | _, _ => none) with
    | some p, some ps => some (p :: ps)
    | _, _ => none)).map PyData.tuple = _
  rw [py_int, e]
  rfl
theorem pE_shown {p : Nat × Nat} (h1 : p.1 < 21) (h2 : p.2 < 21) : (pE p).shown.length ≤ 11 := by
  show (tupleText [PyData.shown (.int (p.1 : Int)), PyData.shown (.int (p.2 : Int))]).length ≤ 11
  have := tupleText_le [PyData.shown (.int (p.1 : Int)), PyData.shown (.int (p.2 : Int))]
  have a1 := shown_small p.1 h1
  have a2 := shown_small p.2 h2
  rw [piled_cons, piled_cons, piled_nil] at this
  omega
theorem pG_shown {n : Nat} {A : Adj} (hn : n ≤ 20) : (pG n A).shown.length ≤ 6000 := by
  have a0 := EL_len n A
  have a3 : n * n ≤ 20 * 20 := Nat.mul_le_mul hn hn
  have e1 : (PyData.shown (.tuple ((EL n A).map pE))).length ≤ 5300 := by
    show (tupleText (PyData.shownAll ((EL n A).map pE))).length ≤ _
    have h1 := tupleText_le (PyData.shownAll ((EL n A).map pE))
    have h2 := piled_all (k := 11) (L := (EL n A).map pE) fun q hq => by
      obtain ⟨p, hp, rfl⟩ := List.mem_map.mp hq
      obtain ⟨⟨b1, b2⟩, _⟩ := mem_EL.mp (show (p.1, p.2) ∈ EL n A from hp)
      exact pE_shown (by omega) (by omega)
    rw [List.length_map] at h2
    omega
  show (tupleText [PyData.shown (.int (n : Int)), PyData.shown (.tuple ((EL n A).map pE))]).length ≤ _
  have h := tupleText_le [PyData.shown (.int (n : Int)), PyData.shown (.tuple ((EL n A).map pE))]
  have a1 := shown_small n (by omega)
  rw [piled_cons, piled_cons, piled_nil] at h
  omega
theorem log_small {x : Nat} (h : x < 21) : decide ((x : Int).natAbs.log2 < 1920) = true := by
  have : ∀ x : Nat, x < 21 → decide ((x : Int).natAbs.log2 < 1920) = true := by decide +kernel
  exact this x h
theorem showAll_of {L : List PyData} (h : ∀ p ∈ L, p.showable = true) : PyData.showableAll L = true := by
  induction L with
  | nil => rfl
  | cons p L ih =>
    show (p.showable && PyData.showableAll L) = true
    rw [h p List.mem_cons_self, ih fun q hq => h q (List.mem_cons_of_mem _ hq)]
    rfl
theorem dictAll_of {L : List PyData} (h : ∀ p ∈ L, p.hasDict = false) : PyData.hasDictAll L = false := by
  induction L with
  | nil => rfl
  | cons p L ih =>
    show (p.hasDict || PyData.hasDictAll L) = false
    rw [h p List.mem_cons_self, ih fun q hq => h q (List.mem_cons_of_mem _ hq)]
    rfl
theorem pE_able {p : Nat × Nat} (h1 : p.1 < 21) (h2 : p.2 < 21) : (pE p).showable = true := by
  show (decide ((p.1 : Int).natAbs.log2 < 1920) && (decide ((p.2 : Int).natAbs.log2 < 1920) && true)) = true
  rw [log_small h1, log_small h2]
  rfl
theorem pG_able {n : Nat} {A : Adj} (hn : n ≤ 20) : (pG n A).showable = true := by
  show (decide ((n : Int).natAbs.log2 < 1920) && (PyData.showableAll ((EL n A).map pE) && true)) = true
  rw [log_small (by omega), showAll_of fun q hq => ?_]
  · rfl
  · obtain ⟨p, hp, rfl⟩ := List.mem_map.mp hq
    obtain ⟨⟨b1, b2⟩, _⟩ := mem_EL.mp (show (p.1, p.2) ∈ EL n A from hp)
    exact pE_able (by omega) (by omega)
theorem pG_noDict {n : Nat} {A : Adj} : (pG n A).hasDict = false := by
  show (false || (PyData.hasDictAll ((EL n A).map pE) || false)) = false
  rw [dictAll_of fun q hq => ?_]
  · rfl
  · obtain ⟨p, hp, rfl⟩ := List.mem_map.mp hq
    rfl
mutual
theorem eqv_self : ∀ p : PyData, p.hasDict = false → PyData.eqv p p = true
  | .none, _ => by simp [PyData.eqv]
  | .bool _, _ => by simp [PyData.eqv]
  | .int _, _ => by simp [PyData.eqv]
  | .str _, _ => by simp [PyData.eqv]
  | .list xs, h => by rw [PyData.eqv]; exact eqvAll_self xs (by simpa [PyData.hasDict] using h)
  | .tuple xs, h => by rw [PyData.eqv]; exact eqvAll_self xs (by simpa [PyData.hasDict] using h)
  | .dict _, h => by simp [PyData.hasDict] at h
theorem eqvAll_self : ∀ ps : List PyData, PyData.hasDictAll ps = false → PyData.eqvAll ps ps = true
  | [], _ => by simp [PyData.eqvAll]
  | p :: ps, h => by
    simp only [PyData.hasDictAll, Bool.or_eq_false_iff] at h
    rw [PyData.eqvAll, eqv_self p h.1, eqvAll_self ps h.2]
    rfl
end
end VM


/-! LW1: the law's own numbers, a draw -/
namespace VMP
open PySem PySem.Spec PyProof.Rows L2 VM

/-- the law's own numbers: the script's cells, the place in them, what is left, how often, the seed, the draws -/
structure Stt (l c : Nat) (B : Int) (S : Store) : Prop where
  ex : ∃ (cells : List Int) (i v k seed cnt : Int), S[l]? = some (.lst [.lst c, .int i, .int v, .int k, .int seed, .int cnt]) ∧ S[c]? = some (.lst (intsD cells)) ∧ (∀ x ∈ cells, 0 ≤ x) ∧ 0 ≤ i ∧ 0 ≤ v ∧ 0 ≤ k ∧ 0 ≤ seed ∧ 0 ≤ cnt ∧ cnt ≤ B
  ne : l ≠ c

theorem intsD_get {ns : List Int} {i : Nat} {n : Int} (h : ns[i]? = some n) : (intsD ns)[i]? = some (.int n) := by
  unfold intsD
  rw [List.getElem?_map, h]
  rfl
@[simp] theorem intsD_length {ns : List Int} : (intsD ns).length = ns.length := by unfold intsD; rw [List.length_map]

theorem draw_ok {l c : Nat} {B many : Int} {S : Store} (h : Stt l c B S) (h1 : 0 < many) (h2 : many < 1073741824) (hB : B < 1000000000) :
    Ok (f__law_draw [.lst l, .int many]) S fun d S' => ∃ r : Int, d = .int r ∧ 0 ≤ r ∧ r < many ∧ Stt l c (B + 1) S' ∧ Keep [l] S S' := by
  obtain ⟨⟨cells, i, v, k, seed, cnt, e1, e2, e3, i0, v0, k0, s0, c0, cB⟩, ne⟩ := h
  have hl := lt_of_get e1
  have hc := lt_of_get e2
  unfold f__law_draw
  rw [ok_mFun]
  refine ⟨rfl, ?_⟩
  unfold b__law_draw
  have kpos : ∀ x : Int, 0 ≤ x → x ≠ 0 → 0 < x := fun x h h' => by omega
  have key : ∀ (i' v' k' seed' cnt' : Int), 0 ≤ i' → 0 ≤ v' → 0 ≤ k' → 0 ≤ seed' → 0 ≤ cnt' → cnt' ≤ B + 1 → Stt l c (B + 1) (S.set l (.lst [.lst c, .int i', .int v', .int k', .int seed', .int cnt'])) ∧ Keep [l] S (S.set l (.lst [.lst c, .int i', .int v', .int k', .int seed', .int cnt'])) := fun i' v' k' seed' cnt' a1 a2 a3 a4 a5 a6 =>
    ⟨⟨⟨cells, i', v', k', seed', cnt', get_set e1, by rw [List.getElem?_set_ne ne]; exact e2, e3, a1, a2, a3, a4, a5, a6⟩, ne⟩, keep_set (by simp)⟩
  have m0 : ∀ x : Int, 0 ≤ x % many ∧ x % many < many := fun x => ⟨Int.emod_nonneg _ (by omega), Int.emod_lt_of_pos _ h1⟩
  have d0 : ∀ x : Int, 0 ≤ x → 0 ≤ x / many := fun x hx => Int.ediv_nonneg hx (by omega)
  by_cases hk : k = 0
  · subst hk
    by_cases hi : i < cells.length
    · have hg : cells[i.toNat]? = some cells[i.toNat] := List.getElem?_eq_getElem (by omega)
      have ci : 0 ≤ cells[i.toNat] := e3 _ (List.getElem_mem _)
      have hat : atI (intsD cells) i = some (.int cells[i.toNat]) := by
        have := VM.atI_nat (intsD_get hg)
        rwa [Int.toNat_of_nonneg i0] at this
      simp [startD, ok_ixLs, e1, ok_setLs, ok_lenLs, e2, hi, ixN, set_get_self, hat, ne, lim, h1, h2]
      have hm := m0 cells[i.toNat]
      have hd := d0 _ ci
      rcases Int.lt_or_le 0 (cells[i.toNat] / many) with q | q
      · exact .inr ⟨q, hm.1, hm.2, key _ _ _ _ _ (by omega) hd (by omega) s0 c0 (by omega)⟩
      · exact .inl ⟨q, hm.1, hm.2, key _ _ _ _ _ (by omega) hd (by omega) s0 c0 (by omega)⟩
    · have hi2 : ¬ (i < (cells.length : Int)) := hi
      have q2 : cnt + 1 < 18446744073709551616 := by omega
      have q3 : -18446744073709551616 < cnt + 1 := by omega
      simp [startD, ok_ixLs, e1, ok_setLs, ok_lenLs, e2, hi2, ixN, set_get_self, ne, lim, h1, h2, q2, q3]
      have hs : 0 ≤ (seed * 48271 + (cnt + 1) * (cnt + 1) * 69621 + 11) % 2147483647 := Int.emod_nonneg _ (by omega)
      exact ⟨(m0 _).1, (m0 _).2, key _ _ _ _ _ i0 v0 (by omega) hs (by omega) (by omega)⟩
  · have hk2 := kpos k k0 hk
    simp [startD, ok_ixLs, e1, ok_setLs, ok_lenLs, e2, hk, hk2, ixN, set_get_self, ne, lim, h1, h2]
    have hd := d0 v v0
    rcases Int.lt_or_le 0 (v / many) with q | q
    · exact .inr ⟨q, (m0 _).1, (m0 _).2, key _ _ _ _ _ i0 hd (by omega) s0 c0 (by omega)⟩
    · exact .inl ⟨q, (m0 _).1, (m0 _).2, key _ _ _ _ _ i0 hd (by omega) s0 c0 (by omega)⟩
end VMP
namespace VMP
open PySem PySem.Spec PyProof.Rows L2 VM
section
variable {S : Store} {Q : D → Store → Prop} {l m c : Nat} {B : Int}
theorem Stt.mono {B' : Int} (h : Stt l c B S) (hB : B ≤ B') : Stt l c B' S := by
  obtain ⟨⟨cells, i, v, k, seed, cnt, e1, e2, e3, i0, v0, k0, s0, c0, cB⟩, ne⟩ := h
  exact ⟨⟨cells, i, v, k, seed, cnt, e1, e2, e3, i0, v0, k0, s0, c0, by omega⟩, ne⟩
theorem Stt.keep {S' : Store} (h : Stt l c B S) (k : Keep [] S S') : Stt l c B S' := by
  obtain ⟨⟨cells, i, v, k', seed, cnt, e1, e2, e3, i0, v0, k0, s0, c0, cB⟩, ne⟩ := h
  exact ⟨⟨cells, i, v, k', seed, cnt, k.at_ _ (by simp) _ e1, k.at_ _ (by simp) _ e2, e3, i0, v0, k0, s0, c0, cB⟩, ne⟩
theorem draw_k {many : Int} (h : Stt l c B S) (h1 : 0 < many) (h2 : many < 1073741824) (hB : B < 1000000000) (hQ : ∀ r S', 0 ≤ r → r < many → Stt l c (B + 1) S' → Keep [l] S S' → Q (.int r) S') : Ok (f__law_draw [.lst l, .int many]) S Q :=
  (draw_ok h h1 h2 hB).imp fun d S' ⟨r, e, r0, r1, st, k⟩ => by subst e; exact hQ r S' r0 r1 st k
theorem at_int {ds : List D} {r : Int} (h0 : 0 ≤ r) (h1 : r < ds.length) : ∃ d, ds[r.toNat]? = some d ∧ atI ds r = some d := by
  have hl : r.toNat < ds.length := by omega
  refine ⟨_, List.getElem?_eq_getElem hl, ?_⟩
  have := VM.atI_nat (List.getElem?_eq_getElem hl)
  rwa [Int.toNat_of_nonneg h0] at this
end
end VMP
namespace VMP
open PySem PySem.Spec PyProof.Rows L2 VM
theorem ints_split {ns : List Int} {pre post : List D} {d : D} (h : intsD ns = pre ++ d :: post) : ∃ (A : List Int) (x : Int) (B : List Int), ns = A ++ x :: B ∧ pre = intsD A ∧ d = .int x := by
  obtain ⟨A, B, e1, e2, e3⟩ := List.map_eq_append_iff.mp h
  obtain ⟨x, C, e4, e5, e6⟩ := List.map_eq_cons_iff.mp e3
  exact ⟨A, x, C, by rw [e1, e4], e2.symm, e5.symm⟩
theorem start_ok {ns : List Int} {Q : D → Store → Prop} (hn : ns.length ≤ 63) (hQ : ∀ l c S', Stt l c 0 S' → Q (.lst l) S') : Ok (f__law_start [.fz (intsD ns)]) [] Q := by
  have hlim : lim = 1000000 := rfl
  have ec : cutD (intsD ns) none (some (63 : Int)) = intsD ns := by
    have := cut_hi (ds := intsD ns) (k := 63)
    rw [show ((63 : Nat) : Int) = 63 from rfl] at this
    rw [this, List.take_of_length_le (by rw [intsD_length]; exact hn)]
  unfold f__law_start b__law_start
  simp [ok_mFun, ok_sFor, ec]
  refine ⟨_, _, ⟨rfl, rfl⟩, ?_⟩
  refine ok_for' (fun pre ρ S => ∃ (s : Int) (y : Option D), 0 ≤ s ∧ ρ = [some (D.fz (intsD ns)), some (.int s), y] ∧ S[0]? = some (.lst (intsD ns))) ?_ ?_ ?_ ?_
  · exact ⟨7, _, by decide, rfl, rfl⟩
  · rintro pre ρ S ⟨_, _, _, _, h⟩
    simpa using h
  · rintro pre d post ρ S N Q' e ⟨s, y, s0, rfl, h⟩ hN
    obtain ⟨A, x, B, _, _, rfl⟩ := ints_split e
    simp
    refine hN _ _ ⟨_, _, ?_, rfl, h⟩
    have := Int.emod_nonneg (s * 48271 + x) (b := 2147483629) (by decide)
    omega
  · rintro ρ S ⟨s, y, s0, rfl, h⟩
    simp [ok_mComp, ec]
    refine ⟨_, _, ⟨rfl, rfl⟩, ?_⟩
    refine ok_pick (L := ns) (f := fun x : Int => D.int x) (p := fun _ => true) (h := fun x => D.int (if x < 0 then -x else x)) (by simp) ?_ ?_
    · intro x hx N hN
      simp
      simpa using hN
    · rw [List.filter_eq_self.mpr fun _ _ => rfl]
      simp [hlim]
      refine ⟨by omega, hQ _ (S.length + 1) _ ⟨⟨ns.map fun x => if x < 0 then -x else x, 0, 0, 0, s, 0, ?_, ?_, ?_, by decide, by decide, by decide, s0, by decide, by decide⟩, by omega⟩⟩
      · rw [List.getElem?_append_right (by omega), show S.length + 1 + 1 - S.length = 2 by omega]
        rfl
      · rw [List.getElem?_append_right (by omega), show S.length + 1 - S.length = 1 by omega]
        unfold intsD
        rw [List.map_map]
        rfl
      · intro x hx
        obtain ⟨y, _, rfl⟩ := List.mem_map.mp hx
        split <;> omega
end VMP

/-! LW2: the graph of pairs (edge_in, graph_in of the program) -/
namespace VM
theorem Keep.setN {w : List Nat} {S S1 : Store} {l : Nat} {o : Ob} (k : Keep w S S1) (h : S.length ≤ l) : Keep w S (S1.set l o) :=
  ⟨by rw [List.length_set]; exact k.len, fun i hi o' e => by
    have := lt_of_get e
    rw [List.getElem?_set_ne (by omega)]
    exact k.at_ i hi o' e⟩
theorem Keep.app {w : List Nat} {S S1 T : Store} (k : Keep w S S1) : Keep w S (S1 ++ T) := k.trans keep_app
end VM
namespace VMP
open PySem PySem.Spec PyProof.Rows L2 VM
def spP (p : Nat × Nat) : Nat × Nat := if p.1 < p.2 then p else (p.2, p.1)
section
variable {S : Store} {Q : D → Store → Prop}
@[simp] theorem ok_edge_in {x y : Nat} : Ok (f_edge_in [.int (x : Int), .int (y : Int)]) S Q ↔ Q (eD (spP (x, y))) S := by
  unfold f_edge_in b_edge_in
  have hlim : lim = 1000000 := rfl
  by_cases h : x < y
  · simp [ok_mFun, startD, h, spP, eD, hlim]
  · simp [ok_mFun, startD, h, spP, eD, hlim]
theorem graph_in_ok {n l : Nat} {L : List (Nat × Nat)} {A : Adj} (h : S[l]? = some (.lst (VM.prD L))) (hl : L.length < 1000000) (hA : ∀ x y, (∃ p, p ∈ L ∧ spP p = (x, y)) ↔ (x < y ∧ y < n) ∧ A x y = true) (hQ : ∀ S', Keep [] S S' → Q (gD n A) S') :
    Ok (f_graph_in [.int (n : Int), .lst l]) S Q := by
  have hlim : lim = 1000000 := rfl
  unfold f_graph_in b_graph_in
  simp [ok_mFun, ok_mDComp, startD, h]
  refine ⟨_, _, ⟨rfl, rfl⟩, ?_⟩
  refine ok_dcomp' (fun pre acc S1 => S1 = S ∧ ∃ L1 L2 M, L = L1 ++ L2 ∧ pre = VM.prD L1 ∧ acc = kvD M ∧ M.Nodup ∧ (∀ q, q ∈ M ↔ ∃ p, p ∈ L1 ∧ spP p = q) ∧ M.length ≤ L1.length) ⟨rfl, [], L, [], rfl, rfl, rfl, List.nodup_nil, by simp, Nat.le_refl _⟩ (fun pre acc S1 ⟨e, _⟩ => by subst e; simpa using h) ?_ ?_
  · rintro pre d post acc S1 N e ⟨rfl, L1, L2, M, e1, rfl, rfl, nd, hM, hML⟩ hN
    have e' := e
    rw [e1, prD_append] at e'
    have e2 := List.append_cancel_left e'
    cases L2 with
    | nil => cases e2
    | cons p L2 =>
      obtain ⟨rfl, e3⟩ := List.cons.inj e2
      have hlen : L1.length < L.length := by rw [e1, List.length_append, List.length_cons]; omega
      obtain ⟨x, y⟩ := p
      simp [eD]
      rw [ok_putM]
      refine ⟨_, key_eD, kvD_fits, by rw [kvD_length]; omega, ?_⟩
      rw [kvD_put]
      have hm : ∀ q, (q ∈ if spP (x, y) ∈ M then M else M ++ [spP (x, y)]) ↔ ∃ p, p ∈ L1 ++ [(x, y)] ∧ spP p = q := fun q => by
        have : (∃ p, p ∈ L1 ++ [(x, y)] ∧ spP p = q) ↔ q ∈ M ∨ q = spP (x, y) := by
          rw [hM]
          constructor
          · rintro ⟨p, hp, e⟩
            rcases List.mem_append.mp hp with hp | hp
            · exact .inl ⟨p, hp, e⟩
            · rw [List.mem_singleton.mp hp] at e; exact .inr e.symm
          · rintro (⟨p, hp, e⟩ | e)
            · exact ⟨p, List.mem_append_left _ hp, e⟩
            · exact ⟨_, List.mem_append_right _ (List.mem_singleton.mpr rfl), e.symm⟩
        rw [this]
        split
        · rename_i hin
          exact ⟨.inl, fun h => h.elim id fun e => e ▸ hin⟩
        · rw [List.mem_append, List.mem_singleton]
      have hnd : (if spP (x, y) ∈ M then M else M ++ [spP (x, y)]).Nodup := by
        split
        · exact nd
        · rename_i hin
          rw [List.nodup_append]
          exact ⟨nd, by simp, fun a ha b hb => by rw [List.mem_singleton] at hb; subst hb; exact fun z => hin (z ▸ ha)⟩
      have hle : (if spP (x, y) ∈ M then M else M ++ [spP (x, y)]).length ≤ (L1 ++ [(x, y)]).length := by
        rw [List.length_append]
        split
        · omega
        · rw [List.length_append]; simp; omega
      refine hN _ _ ⟨rfl, L1 ++ [(x, y)], L2, (if spP (x, y) ∈ M then M else M ++ [spP (x, y)]), by rw [e1]; simp, by simp [eD], by split <;> rfl, hnd, hm, hle⟩
  · rintro acc S1 ⟨rfl, L1, L2, M, e1, e2, rfl, nd, hM, hML⟩
    obtain rfl := VM.prD_inj.mp e2
    have hs : M.mergeSort leP = EL n A := EL_sort nd fun x y => by rw [hM, hA]
    rw [ok_sortedOf (ds := VM.prD M) (es := VM.prD (EL n A)) (rowOf_dict get_last) (by rw [sortD_pr (by omega), hs])]
    simp [hlim]
    exact hQ _ keep_app
end
end VMP

/-! LW3: neighbours, graphs that are graphs, drawn graphs -/
namespace VM
open PySem PySem.Spec PyProof.Rows L2
theorem keep_old {w : List Nat} {S0 S : Store} {l : Nat} {o : Ob} (k : Keep w S0 S) (h : S0.length ≤ l) : Keep w S0 (S.set l o) :=
  ⟨by rw [List.length_set]; exact k.len, fun i hi o' e => by have := lt_of_get e; rw [List.getElem?_set_ne (by omega)]; exact k.at_ i hi o' e⟩
@[simp] theorem ok_extendLs {S : Store} {l m : Nat} {Q : D → Store → Prop} : Ok (extendM (.lst l) [.lst m]) S Q ↔ ∃ ds es, S[l]? = some (.lst ds) ∧ S[m]? = some (.lst es) ∧ ds.length + es.length ≤ lim ∧ Q .non (S.set l (.lst (ds ++ es))) := by
  constructor
  · rintro ⟨d, S', e, q⟩
    have e : (match S[l]?, S[m]? with | some (.lst ds), some (.lst es) => if ds.length + es.length ≤ lim then some (.non, S.set l (.lst (ds ++ es))) else none | _, _ => none) = some (d, S') := e
    split at e
    · rename_i ds es h1 h2
      split at e
      · obtain ⟨rfl, rfl⟩ := Prod.mk.inj (Option.some.inj e)
        exact ⟨ds, es, h1, h2, by assumption, q⟩
      · cases e
    · cases e
  · rintro ⟨ds, es, h1, h2, h3, q⟩
    exact (ok_extend h1 h2).mpr ⟨h3, q⟩
def foundL (n : Nat) : List (Nat × Nat) := (List.range n).flatMap fun y => (List.range y).map fun x => (x, y)
theorem foundL_succ (n : Nat) : foundL (n + 1) = foundL n ++ (List.range n).map fun x => (x, n) := by
  unfold foundL
  rw [List.range_succ, List.flatMap_append]
  simp
theorem foundL_len : ∀ n : Nat, (foundL n).length ≤ n * n
  | 0 => by simp [foundL]
  | n + 1 => by
    rw [foundL_succ, List.length_append, List.length_map, List.length_range]
    have := foundL_len n
    have e : (n + 1) * (n + 1) = n * n + n + n + 1 := by rw [Nat.mul_add, Nat.add_mul]; omega
    omega
theorem mem_foundL {n x y : Nat} : (x, y) ∈ foundL n ↔ x < y ∧ y < n := by
  unfold foundL
  simp only [List.mem_flatMap, List.mem_range, List.mem_map, Prod.mk.injEq]
  constructor
  · rintro ⟨b, hb, a, ha, rfl, rfl⟩; exact ⟨ha, hb⟩
  · rintro ⟨h1, h2⟩; exact ⟨y, h2, x, h1, rfl, rfl⟩
theorem foundL_nd (n : Nat) : (foundL n).Nodup := by
  unfold foundL List.Nodup
  rw [List.pairwise_flatMap]
  refine ⟨fun y _ => ?_, ?_⟩
  · rw [List.pairwise_map]
    exact List.pairwise_lt_range.imp fun {a b} q e => by rw [Prod.mk.injEq] at e; omega
  · exact List.pairwise_lt_range.imp fun {a b} q p hp r hr e => by
      obtain ⟨u, _, rfl⟩ := List.mem_map.mp hp
      obtain ⟨v, _, rfl⟩ := List.mem_map.mp hr
      rw [Prod.mk.injEq] at e
      omega
theorem foundL_sort (n : Nat) : (foundL n).mergeSort leP = allP n := sort_pr (foundL_nd n) (allP_up n) fun p => by rw [show p = (p.1, p.2) from rfl, mem_foundL, mem_allP]
/-- the graph of a row of edges -/
def adjOf (L : List (Nat × Nat)) : Adj := fun x y => decide ((x, y) ∈ L) || decide ((y, x) ∈ L)
theorem adjOf_gr {n : Nat} {L : List (Nat × Nat)} (h : L.Sublist (allP n)) : Gr (adjOf L) := by
  refine ⟨fun x => ?_, fun x y => Bool.or_comm _ _⟩
  have : (x, x) ∉ L := fun hm => by have := mem_allP.mp (h.subset hm); omega
  simp [adjOf, this]
theorem adjOf_EL {n : Nat} {L : List (Nat × Nat)} (h : L.Sublist (allP n)) : EL n (adjOf L) = L := by
  refine (EL_is ((allP_up n).sublist h) fun x y => ?_).symm
  constructor
  · intro hm
    exact ⟨mem_allP.mp (h.subset hm), by simp [adjOf, hm]⟩
  · rintro ⟨h1, h2⟩
    unfold adjOf at h2
    rw [Bool.or_eq_true, decide_eq_true_eq, decide_eq_true_eq] at h2
    rcases h2 with h2 | h2
    · exact h2
    · have := mem_allP.mp (h.subset h2)
      omega
theorem rowD_split' {n : Nat} {pre post : List D} {d : D} (h : rowD 0 n = pre ++ d :: post) : pre.length < n ∧ d = .int (pre.length : Int) := by
  have hl : pre.length < n := by
    have := congrArg List.length h
    rw [rowD_len, List.length_append, List.length_cons] at this
    omega
  have hd : (rowD 0 n)[pre.length]? = some d := by rw [h, List.getElem?_append_right (Nat.le_refl _), Nat.sub_self]; rfl
  obtain ⟨_, e⟩ := VM.rowD_get hd
  exact ⟨hl, by rw [e, Int.zero_add]⟩
end VM
namespace VMP
open PySem PySem.Spec PyProof.Rows L2 VM
theorem near_ok {n : Nat} {A : Adj} {S : Store} (g : Gr A) (hn : n ≤ 100) : Ok (f_near_in [gD n A]) S fun d S' => ∃ r c, d = .lst r ∧ S'[r]? = some (.lst (lstsD c n)) ∧ (∀ v, v < n → S'[c + v]? = some (.lst (natD (nbr n A v)))) ∧ Keep [] S S' ∧ S.length ≤ r ∧ S.length ≤ c := by
  unfold f_near_in
  rw [ok_mFun]
  refine ⟨rfl, ?_⟩
  unfold b_near_in
  have hlim : lim = 1000000 := rfl
  simp [gD, ok_mComp, ok_sFor]
  refine ⟨by omega, ?_⟩
  refine ok_comp (fun pre acc S1 => acc = lstsD S.length pre.length ∧ S1 = S ++ List.replicate pre.length (.lst [])) ⟨rfl, by simp⟩ (fun _ _ _ _ => live_nil) ?_ ?_
  · rintro pre d post acc S1 e ⟨rfl, rfl⟩
    simp [lstsD_succ, List.replicate_succ', hlim]
  · rintro acc S1 ⟨rfl, rfl⟩
    rw [rowD_len]
    refine ⟨by rw [lstsD_length]; omega, _, _, ⟨rfl, rfl⟩, ?_⟩
    generalize hS1 : S ++ List.replicate n (Ob.lst []) = S1
    have hl1 : S1.length = S.length + n := by rw [← hS1]; simp
    refine ok_for (fun pre ρ S2 => ∃ L1 L2, EL n A = L1 ++ L2 ∧ pre = VM.prD L1 ∧ (∃ a b, ρ = [some (D.tup [D.int (n : Int), D.tup (VM.prD (EL n A))]), some (D.lst S1.length), a, b, none, none]) ∧ S2[S1.length]? = some (.lst (lstsD S.length n)) ∧
      (∀ v, v < n → S2[S.length + v]? = some (.lst (natD (beside L1 v)))) ∧ Keep [] S S2) ?_ (fun _ _ _ _ => live_nil) ?_ ?_
    · refine ⟨[], EL n A, rfl, rfl, ⟨_, _, rfl⟩, get_last, fun v hv => ?_, ?_⟩
      · rw [List.getElem?_append_left (by omega), ← hS1, List.getElem?_append_right (by omega), Nat.add_sub_cancel_left, List.getElem?_replicate, if_pos hv]
        rfl
      · rw [← hS1]
        exact keep_app.trans keep_app
    · rintro pre d post ρ S2 e ⟨L1, L2, eL, rfl, ⟨a, b, rfl⟩, h1, h2, kp⟩
      obtain ⟨A1, ⟨x, y⟩, B1, e1, e2, rfl, e3⟩ := prD_split e
      obtain rfl := prD_inj.mp e2
      have hm : (x, y) ∈ EL n A := by rw [e1]; simp
      obtain ⟨⟨hxy, hy⟩, hA⟩ := mem_EL.mp hm
      have hx : x < n := by omega
      have hlen : ∀ v, (beside L1 v).length < lim := fun v => by
        have a1 := List.length_filterMap_le (fun p : Nat × Nat => if p.1 = v then some p.2 else if p.2 = v then some p.1 else none) L1
        have a2 := EL_len n A
        rw [e1, List.length_append] at a2
        have a3 : n * n ≤ 100 * 100 := Nat.mul_le_mul hn hn
        unfold beside
        omega
      have ax : atI (lstsD S.length n) (x : Int) = some (.lst (S.length + x)) := VM.atI_nat (lstsD_get hx)
      have ay : atI (lstsD S.length n) (y : Int) = some (.lst (S.length + y)) := VM.atI_nat (lstsD_get hy)
      have w1 : ∀ (o : Ob), (S2.set (S.length + x) o)[S1.length]? = some (.lst (lstsD S.length n)) := fun o => by rw [List.getElem?_set_ne (by omega)]; exact h1
      have w2 : ∀ (o : Ob), (S2.set (S.length + x) o)[S.length + y]? = some (.lst (natD (beside L1 y))) := fun o => by rw [List.getElem?_set_ne (by omega)]; exact h2 y hy
      simp [eD, h1, ax, ay, h2 x hx, w1, w2, hlen]
      refine ⟨L1 ++ [(x, y)], ⟨B1, by rw [e1]; simp⟩, by simp [eD], ?_, fun v hv => ?_, ?_⟩
      · rw [List.getElem?_set_ne (by omega)]; exact w1 _
      · have eb : ∀ u, beside (L1 ++ [(x, y)]) u = beside L1 u ++ (if x = u then [y] else if y = u then [x] else []) := fun u => by
          unfold beside
          rw [List.filterMap_append]
          congr 1
          by_cases c1 : x = u
          · simp [c1]
          · by_cases c2 : y = u
            · simp [c1, c2]
            · simp [c1, c2]
        rw [eb]
        by_cases c1 : x = v
        · subst c1
          rw [List.getElem?_set_ne (by omega), get_set (h2 x hx)]
          simp
        · by_cases c2 : y = v
          · subst c2
            rw [get_set (w2 _)]
            simp [c1]
          · rw [List.getElem?_set_ne (by omega), List.getElem?_set_ne (by omega), h2 v hv]
            simp [c1, c2]
      · refine ⟨by simpa using kp.len, fun i hi o ho => ?_⟩
        have := lt_of_get ho
        rw [List.getElem?_set_ne (by omega), List.getElem?_set_ne (by omega)]
        exact kp.at_ i hi o ho
    · rintro ρ S2 ⟨L1, L2, eL, e2, ⟨a, b, rfl⟩, h1, h2, kp⟩
      obtain rfl := prD_inj.mp e2
      simp [ok_mComp, h1]
      refine ⟨_, _, ⟨rfl, rfl⟩, ?_⟩
      refine ok_comp (fun pre acc S3 => acc = lstsD S2.length pre.length ∧ Keep [] S2 S3 ∧ S3.length = S2.length + pre.length ∧ ∀ v, v < pre.length → S3[S2.length + v]? = some (.lst (natD (nbr n A v)))) ?_ ?_ ?_ ?_
      · exact ⟨rfl, Keep.refl, rfl, fun v hv => absurd hv (Nat.not_lt_zero _)⟩
      · rintro pre acc S3 ⟨_, k2, _, _⟩
        simp [k2.at_ _ (by simp) _ h1]
      · rintro pre d post acc S3 e ⟨rfl, k2, hl, h3⟩
        obtain ⟨hp, rfl, _⟩ := lstsD_split e
        have hr : rowOf S3 (.lst (S.length + pre.length)) = some (natD (beside (EL n A) pre.length)) := seq_lst (k2.at_ _ (by simp) _ (h2 _ hp))
        have hs : sortD S3 (natD (beside (EL n A) pre.length)) = some (natD (nbr n A pre.length)) := by
          rw [sortD_nat, beside_sort g hp]
          have a1 := List.length_filterMap_le (fun p : Nat × Nat => if p.1 = pre.length then some p.2 else if p.2 = pre.length then some p.1 else none) (EL n A)
          have a2 := EL_len n A
          have a3 : n * n ≤ 100 * 100 := Nat.mul_le_mul hn hn
          unfold beside
          omega
        simp [ok_sortedOf hr hs, lstsD_succ, hl]
        refine ⟨k2.trans keep_app, by omega, fun v hv => ?_⟩
        by_cases c : v < pre.length
        · exact get_app (h3 v c)
        · obtain rfl : v = pre.length := by omega
          rw [← hl]
          exact get_last
      · rintro acc S3 ⟨rfl, k2, hl, h3⟩
        simp only [lstsD_length] at hl h3 ⊢
        have := kp.len
        have := k2.len
        refine ⟨by omega, S2.length, rfl, fun v hv => get_app (h3 v hv), (kp.trans k2).trans keep_app, by omega, by omega⟩
section
variable {S : Store} {Q : D → Store → Prop}
@[simp] theorem ok_is_integer {i : Int} : Ok (f_is_integer [.int i]) S Q ↔ Q (.bl true) S := by
  unfold f_is_integer b_is_integer
  simp [ok_mFun]
theorem ok_is_edge {p : Nat × Nat} {n : Nat} : Ok (f_is_edge [eD p, .int (n : Int)]) S Q ↔ Q (.bl (decide (p.1 < p.2 ∧ p.2 < n))) S := by
  unfold f_is_edge b_is_edge
  simp [ok_mFun, eD]
  by_cases c : p.1 < p.2
  · have c2 : ¬ p.2 ≤ p.1 := by omega
    simp [c, c2]
  · have c2 : p.2 ≤ p.1 := by omega
    simp [c, c2]
theorem check_ok {n : Nat} {A : Adj} {nm : Str} (hn : n ≤ 20) (h : ∀ S', Keep [] S S' → Q .non S') : Ok (f_check_graph [gD n A, .str nm]) S Q := by
  have a2 := EL_len n A
  have a3 : n * n ≤ 20 * 20 := Nat.mul_le_mul hn hn
  have hlim : lim = 1000000 := rfl
  have i20 : (n : Int) ≤ 20 := by omega
  unfold f_check_graph b_check_graph f_is_graph b_is_graph
  simp [ok_mFun, gD, ok_mComp, i20]
  refine ⟨_, _, ⟨rfl, rfl⟩, ?_⟩
  unfold VM.prD
  refine ok_pick (f := eD) (p := fun _ => true) (h := fun _ => D.bl true) live_nil ?_ ?_
  · intro p hp N hN
    obtain ⟨⟨h1, h2⟩, _⟩ := mem_EL.mp (show (p.1, p.2) ∈ EL n A from hp)
    simp [ok_is_edge, h1, h2]
    simpa using hN
  · have ft : (EL n A).filter (fun _ => true) = EL n A := List.filter_eq_self.mpr fun _ _ => rfl
    rw [ft]
    simp
    refine ⟨by omega, ?_⟩
    rw [ok_allL (bs := (EL n A).map fun _ => true) (by rw [get_last, List.map_map]; rfl)]
    have e1 : ((EL n A).map fun _ => true).all id = true := by simp
    rw [e1]
    simp
    have e2 : VM.pairD ((EL n A).map eD) ((EL n A).map eD).tail = ((EL n A).zip ((EL n A).drop 1)).map fun z => D.pr [eD z.1, eD z.2] := by
      rw [← pairD_zip, ← prD_drop, List.drop_one]
      rfl
    rw [e2]
    refine ok_pick (f := fun z : (Nat × Nat) × (Nat × Nat) => D.pr [eD z.1, eD z.2]) (p := fun _ => true) (h := fun _ => D.bl true) live_nil ?_ ?_
    · intro z hz N hN
      have := zip_up (EL_up n A) z hz
      simp [ok_ltPr, this]
      simpa using hN
    · have ft2 : ((EL n A).zip ((EL n A).drop 1)).filter (fun _ => true) = (EL n A).zip ((EL n A).drop 1) := List.filter_eq_self.mpr fun _ _ => rfl
      rw [ft2]
      refine ⟨by rw [List.length_map, List.length_zip]; omega, ?_⟩
      rw [ok_allL (bs := ((EL n A).zip ((EL n A).drop 1)).map fun _ => true) (by rw [get_last, List.map_map]; rfl)]
      have e3 : (((EL n A).zip ((EL n A).drop 1)).map fun _ => true).all id = true := by simp
      rw [e3]
      simp
      exact h _ keep_app
end
end VMP

/-! K71_A1: points, complements, parts -/
namespace VM
open PySem PySem.Spec PyProof.Rows L2
theorem pairD_nat : ∀ {L M : List Nat}, pairD (natD L) (natD M) = (L.zip M).map fun z => D.pr [.int (z.1 : Int), .int (z.2 : Int)]
  | [], M => by simp [pairD]
  | p :: L, [] => by simp [pairD]
  | p :: L, q :: M => by
    show D.pr [.int (p : Int), .int (q : Int)] :: pairD (natD L) (natD M) = _
    rw [pairD_nat]
    rfl
theorem natD_drop {L : List Nat} {k : Nat} : (natD L).drop k = natD (L.drop k) := by unfold natD; rw [List.map_drop]
theorem zip_upN {L : List Nat} (up : L.Pairwise (· < ·)) : ∀ z ∈ L.zip (L.drop 1), z.1 < z.2 := by
  induction up with
  | nil => intro z hz; simp at hz
  | @cons a L h t ih =>
    intro z hz
    cases L with
    | nil => simp at hz
    | cons b L =>
      simp only [List.drop_succ_cons, List.drop_zero, List.zip_cons_cons, List.mem_cons] at hz
      rcases hz with rfl | hz
      · exact h b (by simp)
      · exact ih z (by simpa using hz)
theorem up_nd {L : List Nat} (up : L.Pairwise (· < ·)) : L.Nodup := up.imp fun h => Nat.ne_of_lt h
theorem nd_le {α : Type} [DecidableEq α] : ∀ {L M : List α}, L.Nodup → (∀ a ∈ L, a ∈ M) → L.length ≤ M.length
  | [], _, _, _ => Nat.zero_le _
  | a :: L, M, nd, h => by
    have nd' := List.nodup_cons.mp nd
    have hm := h a (List.mem_cons_self ..)
    have := nd_le (M := M.erase a) nd'.2 fun b hb => by
      have hne : b ≠ a := fun e => nd'.1 (e ▸ hb)
      exact (List.mem_erase_of_ne hne).mpr (h b (List.mem_cons_of_mem _ hb))
    rw [List.length_erase_of_mem hm] at this
    have := List.length_pos_of_mem hm
    rw [List.length_cons]
    omega
theorem nd_full {α : Type} [DecidableEq α] : ∀ {L M : List α}, L.Nodup → (∀ a ∈ L, a ∈ M) → M.length ≤ L.length → ∀ a ∈ M, a ∈ L
  | [], M, _, _, hl, a, ha => by
    have e : M = [] := List.length_eq_zero_iff.mp (Nat.le_zero.mp hl)
    rw [e] at ha
    cases ha
  | b :: L, M, nd, h, hl, a, ha => by
    have nd' := List.nodup_cons.mp nd
    have hm := h b (List.mem_cons_self ..)
    by_cases e : a = b
    · rw [e]; exact List.mem_cons_self ..
    · have hlen : (M.erase b).length ≤ L.length := by
        rw [List.length_erase_of_mem hm]
        rw [List.length_cons] at hl
        omega
      refine List.mem_cons_of_mem _ (nd_full nd'.2 (M := M.erase b) (fun c hc => ?_) hlen a ((List.mem_erase_of_ne e).mpr ha))
      have hne : c ≠ b := fun e => nd'.1 (e ▸ hc)
      exact (List.mem_erase_of_ne hne).mpr (h c (List.mem_cons_of_mem _ hc))
theorem nd_leN {L : List Nat} {n : Nat} (nd : L.Nodup) (h : ∀ x ∈ L, x < n) : L.length ≤ n := by
  have := nd_le nd (M := List.range n) fun x hx => List.mem_range.mpr (h x hx)
  rwa [List.length_range] at this
/-- a rising row of points -/
structure Pts (n : Nat) (P : List Nat) : Prop where
  up : P.Pairwise (· < ·)
  lt : ∀ x ∈ P, x < n
theorem Pts.len {n : Nat} {P : List Nat} (h : Pts n P) : P.length ≤ n := nd_leN (up_nd h.up) h.lt
/-- the complement -/
def cpl (A : Adj) : Adj := fun x y => !decide (x = y) && !A x y
theorem Gr.cpl {A : Adj} (g : Gr A) : Gr (cpl A) := ⟨fun x => by simp [VM.cpl], fun x y => by
  unfold VM.cpl
  rw [g.sym x y]
  by_cases h : x = y
  · subst h; rfl
  · have h2 : ¬ y = x := fun e => h e.symm
    simp [h, h2]⟩
/-- the part of some points -/
def ind (P : List Nat) (A : Adj) : Adj := fun i j => A (P.getD i 0) (P.getD j 0)
theorem Gr.ind {A : Adj} (g : Gr A) (P : List Nat) : Gr (ind P A) := ⟨fun i => g.irr _, fun i j => g.sym _ _⟩
end VM
namespace VMP
open PySem PySem.Spec PyProof.Rows L2 VM
section
variable {S : Store} {Q : D → Store → Prop}
theorem are_points_ok {n : Nat} {P : List Nat} (h : Pts n P) (hn : n ≤ 1000) (hQ : ∀ S', Keep [] S S' → Q (.bl true) S') : Ok (f_are_points [.tup (natD P), .int (n : Int)]) S Q := by
  have hlim : lim = 1000000 := rfl
  have hl := h.len
  unfold f_are_points b_are_points
  simp [ok_mFun]
  refine ok_compPick (L := P) (f := fun x : Nat => D.int (x : Int)) (p := fun _ => true) (h := fun _ => D.bl true) (lv := []) (P.map fun _ => D.bl true) (by simp [natD]) (by simp) ?_ (by rw [List.filter_eq_self.mpr fun _ _ => rfl]) (by rw [List.length_map]; omega) ?_
  · intro x hx N hN
    have := h.lt x hx
    simp [this]
    simpa using hN
  · have e1 : (P.map fun _ => D.bl true) = (P.map fun _ => true).map D.bl := by rw [List.map_map]; rfl
    rw [e1, ok_allL get_last]
    have e2 : (P.map fun _ => true).all id = true := by simp
    rw [e2]
    simp
    refine ok_compPick (L := P.zip (P.drop 1)) (f := fun z => D.pr [.int (z.1 : Int), .int (z.2 : Int)]) (p := fun _ => true) (h := fun _ => D.bl true) (lv := []) ((P.zip (P.drop 1)).map fun _ => D.bl true) ?_ (by simp) ?_ (by rw [List.filter_eq_self.mpr fun _ _ => rfl]) (by rw [List.length_map, List.length_zip]; omega) ?_
    · simp
      rw [← List.drop_one, natD_drop, pairD_nat, List.drop_one]
    · intro z hz N hN
      have := zip_upN h.up z hz
      simp [this]
      simpa using hN
    · have e3 : ((P.zip (P.drop 1)).map fun _ => D.bl true) = ((P.zip (P.drop 1)).map fun _ => true).map D.bl := by rw [List.map_map]; rfl
      rw [e3, ok_allL get_last]
      have e4 : ((P.zip (P.drop 1)).map fun _ => true).all id = true := by simp
      rw [e4]
      simp
      exact hQ _ keep_app
theorem mem_sub {L1 L2 : List Nat} {x : Nat} {L : List Nat} (e : L = L1 ++ x :: L2) : x ∈ L := by rw [e]; simp
theorem ok_ninDict {l : Nat} {L : List (Nat × Nat)} {p : Nat × Nat} (h : S[l]? = some (.dct (kvD L))) : Ok (ninA (eD p) (.dct l)) S Q ↔ Q (.bl (!decide (p ∈ L))) S := by
  refine ok_iff ?_
  show (lookD S (.dct l) (eD p)).map _ = _
  rw [look_kvD h]
  by_cases c : p ∈ L <;> simp [c]
end
end VMP

/-! K71_A2: parts of graphs -/
namespace VM
open PySem PySem.Spec PyProof.Rows L2
theorem getD_of {L : List Nat} {i x : Nat} (h : L[i]? = some x) : L.getD i 0 = x := by rw [List.getD_eq_getElem?_getD, h]; rfl
theorem idx_of {L : List Nat} {x : Nat} (h : x ∈ L) : L.idxOf x < L.length ∧ L[L.idxOf x]? = some x := by
  have h1 := List.idxOf_lt_length_of_mem h
  exact ⟨h1, by rw [List.getElem?_eq_getElem h1, List.getElem_idxOf h1]⟩
theorem up_get {L : List Nat} (up : L.Pairwise (· < ·)) {i j x y : Nat} (hi : L[i]? = some x) (hj : L[j]? = some y) : i < j ↔ x < y := by
  obtain ⟨h1, rfl⟩ := List.getElem?_eq_some_iff.mp hi
  obtain ⟨h2, rfl⟩ := List.getElem?_eq_some_iff.mp hj
  have := List.pairwise_iff_getElem.mp up
  constructor
  · intro h; exact this i j h1 h2 h
  · intro h
    rcases Nat.lt_trichotomy i j with h3 | h3 | h3
    · exact h3
    · subst h3; omega
    · have := this j i h2 h1 h3; omega
/-- the edges of a part -/
theorem ind_EL {n : Nat} {P : List Nat} {A : Adj} (h : Pts n P) : (((EL n A).filter fun p => decide (p.1 ∈ P) && decide (p.2 ∈ P)).map fun p => (P.idxOf p.1, P.idxOf p.2)) = EL P.length (ind P A) := by
  refine EL_is ?_ fun i j => ?_
  · rw [List.pairwise_map]
    refine List.Pairwise.imp_of_mem ?_ ((EL_up n A).filter _)
    rintro ⟨a, b⟩ ⟨c, d⟩ h1 h2 h3
    have m1 := (List.mem_filter.mp h1).2
    have m2 := (List.mem_filter.mp h2).2
    simp at m1 m2
    obtain ⟨_, ga⟩ := idx_of m1.1
    obtain ⟨_, gb⟩ := idx_of m1.2
    obtain ⟨_, gc⟩ := idx_of m2.1
    obtain ⟨_, gd⟩ := idx_of m2.2
    have q1 := up_get h.up ga gc
    have q2 := up_get h.up gb gd
    unfold ltP at h3 ⊢
    dsimp only at h3 ⊢
    rcases h3 with h3 | ⟨h3, h4⟩
    · exact .inl (q1.mpr h3)
    · exact .inr ⟨by rw [h3], q2.mpr h4⟩
  · constructor
    · intro hm
      obtain ⟨⟨a, b⟩, h1, h2⟩ := List.mem_map.mp hm
      obtain ⟨h3, h4⟩ := List.mem_filter.mp h1
      simp at h4
      obtain ⟨⟨h5, h6⟩, h7⟩ := mem_EL.mp h3
      simp only [Prod.mk.injEq] at h2
      obtain ⟨rfl, rfl⟩ := h2
      obtain ⟨ia, ga⟩ := idx_of h4.1
      obtain ⟨ib, gb⟩ := idx_of h4.2
      refine ⟨⟨(up_get h.up ga gb).mpr h5, ib⟩, ?_⟩
      unfold ind
      rw [getD_of ga, getD_of gb]
      exact h7
    · rintro ⟨⟨h1, h2⟩, h3⟩
      have gi : P[i]? = some P[i] := List.getElem?_eq_getElem (by omega)
      have gj : P[j]? = some P[j] := List.getElem?_eq_getElem h2
      unfold ind at h3
      rw [getD_of gi, getD_of gj] at h3
      have mi := List.mem_of_getElem? gi
      have mj := List.mem_of_getElem? gj
      have hlt := (up_get h.up gi gj).mp h1
      refine List.mem_map.mpr ⟨(P[i], P[j]), List.mem_filter.mpr ⟨mem_EL.mpr ⟨⟨hlt, h.lt _ mj⟩, h3⟩, by simp⟩, ?_⟩
      have nd := up_nd h.up
      simp only [Prod.mk.injEq]
      exact ⟨nd.idxOf_getElem i (by omega), nd.idxOf_getElem j h2⟩
end VM
namespace VMP
open PySem PySem.Spec PyProof.Rows L2 VM
section
variable {S : Store} {Q : D → Store → Prop}
def numF (P : List Nat) : List (Nat × D) := P.zipIdx.map fun z => (z.1, D.int (z.2 : Int))
theorem numF_keys {P : List Nat} : (numF P).map (·.1) = P := by
  unfold numF
  rw [List.map_map]
  have : ((fun x : Nat × D => x.1) ∘ fun z : Nat × Nat => (z.1, D.int (z.2 : Int))) = Prod.fst := rfl
  rw [this, List.zipIdx_map_fst]
theorem numF_get {P : List Nat} (nd : P.Nodup) {x : Nat} (hx : x ∈ P) : ((numF P).find? fun p => decide (p.1 = x)).map (·.2) = some (.int (P.idxOf x : Int)) := by
  have go : ∀ (P : List Nat) (k : Nat), P.Nodup → x ∈ P → (((P.zipIdx k).map fun z => (z.1, D.int (z.2 : Int))).find? fun p => decide (p.1 = x)).map (·.2) = some (.int ((k + P.idxOf x : Nat) : Int)) := by
    intro P
    induction P with
    | nil => intro k _ h; cases h
    | cons a P ih =>
      intro k nd h
      rw [List.zipIdx_cons, List.map_cons, List.find?_cons, List.idxOf_cons]
      by_cases e : a = x
      · subst e; simp
      · have h2 : x ∈ P := (List.mem_cons.mp h).resolve_left fun z => e z.symm
        have e2 : (a == x) = false := beq_false_of_ne e
        simp only [decide_eq_false e, e2]
        rw [ih (k + 1) (List.nodup_cons.mp nd).2 h2]
        simp
        omega
  have := go P 0 nd hx
  rw [Nat.zero_add] at this
  exact this
end
end VMP

/-! K71_A3: other numbers, graphs side by side -/
namespace VM
open PySem PySem.Spec PyProof.Rows L2
/-- all points in an order -/
structure Ord (n : Nat) (L : List Nat) : Prop where
  len : L.length = n
  nd : L.Nodup
  lt : ∀ x ∈ L, x < n
theorem Ord.mem {n : Nat} {L : List Nat} (h : Ord n L) {x : Nat} (hx : x < n) : x ∈ L :=
  nd_full h.nd (M := List.range n) (fun a ha => List.mem_range.mpr (h.lt a ha)) (by rw [List.length_range, h.len]; exact Nat.le_refl _) x (List.mem_range.mpr hx)
theorem Ord.get {n : Nat} {L : List Nat} (h : Ord n L) {i : Nat} (hi : i < n) : L[i]? = some (L.getD i 0) ∧ L.getD i 0 < n ∧ L.idxOf (L.getD i 0) = i := by
  have hl : i < L.length := by rw [h.len]; exact hi
  have g : L[i]? = some L[i] := List.getElem?_eq_getElem hl
  rw [getD_of g]
  exact ⟨g, h.lt _ (List.getElem_mem hl), h.nd.idxOf_getElem i hl⟩
theorem Ord.idx {n : Nat} {L : List Nat} (h : Ord n L) {x : Nat} (hx : x < n) : L.idxOf x < n ∧ L.getD (L.idxOf x) 0 = x := by
  obtain ⟨h1, h2⟩ := idx_of (h.mem hx)
  rw [h.len] at h1
  exact ⟨h1, getD_of h2⟩
theorem Ord.sort {n : Nat} {L : List Nat} (h : Ord n L) : L.mergeSort leN = List.range n :=
  sort_nat h.nd List.pairwise_lt_range fun x => ⟨fun hx => List.mem_range.mpr (h.lt x hx), fun hx => h.mem (List.mem_range.mp hx)⟩
theorem ord_range (n : Nat) : Ord n (List.range n) := ⟨List.length_range, List.nodup_range, fun x hx => List.mem_range.mp hx⟩
/-- by other numbers -/
def rel (L : List Nat) (A : Adj) : Adj := fun x y => A (L.idxOf x) (L.idxOf y)
theorem Gr.rel {A : Adj} (g : Gr A) (L : List Nat) : Gr (rel L A) := ⟨fun i => g.irr _, fun i j => g.sym _ _⟩
/-- side by side -/
def bes (n : Nat) (A B : Adj) : Adj := fun x y => if x < n then (if y < n then A x y else false) else if y < n then false else B (x - n) (y - n)
theorem Gr.bes {A B : Adj} (g : Gr A) (g' : Gr B) (n : Nat) : Gr (bes n A B) := by
  refine ⟨fun x => ?_, fun x y => ?_⟩
  · unfold VM.bes
    by_cases h : x < n
    · simp [h, g.irr]
    · simp [h, g'.irr]
  · unfold VM.bes
    by_cases h : x < n <;> by_cases h2 : y < n <;> simp [h, h2, g.sym x y, g'.sym (x - n) (y - n)]
theorem bes_EL {n m : Nat} {A B : Adj} : EL n A ++ (EL m B).map (fun p => (p.1 + n, p.2 + n)) = EL (n + m) (bes n A B) := by
  refine EL_is ?_ fun x y => ?_
  · rw [List.pairwise_append]
    refine ⟨EL_up n A, ?_, ?_⟩
    · rw [List.pairwise_map]
      refine (EL_up m B).imp fun {a b} h => ?_
      unfold ltP at h ⊢
      dsimp only
      omega
    · rintro ⟨a, b⟩ h1 q h2
      obtain ⟨⟨c, d⟩, h3, rfl⟩ := List.mem_map.mp h2
      obtain ⟨⟨h4, h5⟩, _⟩ := mem_EL.mp h1
      unfold ltP
      dsimp only
      omega
  · rw [List.mem_append, List.mem_map]
    constructor
    · rintro (h | ⟨⟨c, d⟩, h3, h4⟩)
      · obtain ⟨⟨h1, h2⟩, h3⟩ := mem_EL.mp h
        refine ⟨⟨h1, by omega⟩, ?_⟩
        unfold bes
        rw [if_pos (by omega), if_pos h2]
        exact h3
      · obtain ⟨⟨h5, h6⟩, h7⟩ := mem_EL.mp h3
        simp only [Prod.mk.injEq] at h4
        obtain ⟨rfl, rfl⟩ := h4
        refine ⟨⟨by omega, by omega⟩, ?_⟩
        unfold bes
        rw [if_neg (by omega), if_neg (by omega), Nat.add_sub_cancel, Nat.add_sub_cancel]
        exact h7
    · rintro ⟨⟨h1, h2⟩, h3⟩
      unfold bes at h3
      by_cases c1 : x < n
      · rw [if_pos c1] at h3
        by_cases c2 : y < n
        · rw [if_pos c2] at h3
          exact .inl (mem_EL.mpr ⟨⟨h1, c2⟩, h3⟩)
        · rw [if_neg c2] at h3; cases h3
      · rw [if_neg c1] at h3
        by_cases c2 : y < n
        · omega
        · rw [if_neg c2] at h3
          refine .inr ⟨(x - n, y - n), mem_EL.mpr ⟨⟨by omega, by omega⟩, h3⟩, ?_⟩
          simp only [Prod.mk.injEq]
          omega
theorem eqv_nats : ∀ {L M : List Nat}, PyData.eqvAll (L.map pI) (M.map pI) = decide (L = M)
  | [], [] => rfl
  | [], b :: M => by simp [PyData.eqvAll]
  | a :: L, [] => by simp [PyData.eqvAll]
  | a :: L, b :: M => by
    rw [List.map_cons, List.map_cons, PyData.eqvAll, eqv_pI, eqv_nats]
    by_cases h : a = b <;> by_cases h2 : L = M <;> simp [h, h2]
section
variable {S : Store} {Q : D → Store → Prop} {l m : Nat} {L M : List Nat}
theorem py_lstN (h : S[l]? = some (.lst (natD L))) : D.py S 9 (.lst l) = some (.list (L.map pI)) := by
  show (match S[l]? with
    | some (.lst ds) => (pyL (D.py S 8) ds).map PyData.list
    | _ => none) = _
  rw [h]
  dsimp only
  rw [pyL_nat]
  rfl
theorem ok_eqLN (h : S[l]? = some (.lst (natD L))) (h2 : S[m]? = some (.lst (natD M))) : Ok (eqM (.lst l) (.lst m)) S Q ↔ Q (.bl (decide (L = M))) S := by
  refine ok_iff ?_
  show (match D.py S 9 (.lst l), D.py S 9 (.lst m) with
    | some p, some q => some (D.bl (PyData.eqv p q), S)
    | _, _ => none) = _
  rw [py_lstN h, py_lstN h2]
  dsimp only
  rw [PyData.eqv, eqv_nats]
theorem ok_neLN (h : S[l]? = some (.lst (natD L))) (h2 : S[m]? = some (.lst (natD M))) : Ok (neM (.lst l) (.lst m)) S Q ↔ Q (.bl (!decide (L = M))) S := by
  refine ok_iff ?_
  show (match D.py S 9 (.lst l), D.py S 9 (.lst m) with
    | some p, some q => some (D.bl (!PyData.eqv p q), S)
    | _, _ => none) = _
  rw [py_lstN h, py_lstN h2]
  dsimp only
  rw [PyData.eqv, eqv_nats]
end
end VM
namespace VMP
open PySem PySem.Spec PyProof.Rows L2 VM
section
variable {S : Store} {Q : D → Store → Prop}
theorem relabelled_in_ok {n : Nat} {L : List Nat} {A : Adj} (g : Gr A) (h : Ord n L) (hn : n ≤ 20) (hQ : ∀ S', Keep [] S S' → Q (gD n (rel L A)) S') : Ok (f_relabelled_in [gD n A, .tup (natD L)]) S Q := by
  have hlim : lim = 1000000 := rfl
  have a2 := EL_len n A
  have a3 : n * n ≤ 20 * 20 := Nat.mul_le_mul hn hn
  unfold f_relabelled_in b_relabelled_in
  simp [ok_mFun, gD]
  refine ok_compPick (L := EL n A) (f := eD) (p := fun _ => true) (h := fun p => eD (L.getD p.1 0, L.getD p.2 0)) (lv := []) (VM.prD ((EL n A).map fun p => (L.getD p.1 0, L.getD p.2 0))) ?_ live_nil ?_ ?_ ?_ ?_
  · simp
    rfl
  · intro p hp M hM
    obtain ⟨⟨h1, h2⟩, _⟩ := mem_EL.mp (show (p.1, p.2) ∈ EL n A from hp)
    have g1 := VM.atI_nat (natD_get (h.get (show p.1 < n by omega)).1)
    have g2 := VM.atI_nat (natD_get (h.get h2).1)
    simp [eD, hlim, g1, g2]
    simpa [eD] using hM
  · rw [List.filter_eq_self.mpr fun _ _ => rfl]
    unfold VM.prD
    rw [List.map_map]
    rfl
  · rw [prD_length, List.length_map]
    omega
  · refine graph_in_ok (A := rel L A) get_last ?_ ?_ fun S' k => hQ S' (keep_app.trans k)
    · rw [List.length_map]; omega
    · intro x y
      constructor
      · rintro ⟨p, hp, e⟩
        obtain ⟨⟨a, b⟩, h3, rfl⟩ := List.mem_map.mp hp
        obtain ⟨⟨h4, h5⟩, h6⟩ := mem_EL.mp h3
        obtain ⟨_, ta, ia⟩ := h.get (show a < n by omega)
        obtain ⟨_, tb, ib⟩ := h.get h5
        have ne : L.getD a 0 ≠ L.getD b 0 := fun z => by rw [z, ib] at ia; omega
        unfold spP at e
        dsimp only at e
        split at e
        · rename_i hlt
          simp only [Prod.mk.injEq] at e
          obtain ⟨rfl, rfl⟩ := e
          refine ⟨⟨hlt, tb⟩, ?_⟩
          unfold rel
          rw [ia, ib]
          exact h6
        · rename_i hlt
          simp only [Prod.mk.injEq] at e
          obtain ⟨rfl, rfl⟩ := e
          refine ⟨⟨by omega, ta⟩, ?_⟩
          unfold rel
          rw [ia, ib, g.sym]
          exact h6
      · rintro ⟨⟨h1, h2⟩, h3⟩
        obtain ⟨ix, ex⟩ := h.idx (show x < n by omega)
        obtain ⟨iy, ey⟩ := h.idx h2
        unfold rel at h3
        rcases Nat.lt_trichotomy (L.idxOf x) (L.idxOf y) with hlt | hlt | hlt
        · refine ⟨(x, y), List.mem_map.mpr ⟨(L.idxOf x, L.idxOf y), mem_EL.mpr ⟨⟨hlt, iy⟩, h3⟩, by rw [ex, ey]⟩, by unfold spP; rw [if_pos h1]⟩
        · rw [hlt, ey] at ex; omega
        · refine ⟨(y, x), List.mem_map.mpr ⟨(L.idxOf y, L.idxOf x), mem_EL.mpr ⟨⟨hlt, ix⟩, by rw [g.sym]; exact h3⟩, by rw [ex, ey]⟩, by unfold spP; rw [if_neg (by dsimp only; omega)]⟩
theorem relabelled_ok {n : Nat} {L : List Nat} {A : Adj} (g : Gr A) (h : Ord n L) (hn : n ≤ 20) (hQ : ∀ S', Keep [] S S' → Q (gD n (rel L A)) S') : Ok (f_relabelled [gD n A, .tup (natD L)]) S Q := by
  have hlim : lim = 1000000 := rfl
  have a2 := EL_len n A
  have a3 : n * n ≤ 20 * 20 := Nat.mul_le_mul hn hn
  have hl := h.len
  unfold f_relabelled b_relabelled
  simp [ok_mFun]
  refine check_ok hn fun S1 k1 => ?_
  simp [gD]
  refine ok_compPick (L := L) (f := fun x : Nat => D.int (x : Int)) (p := fun _ => true) (h := fun _ => D.bl true) (lv := []) (L.map fun _ => D.bl true) (by simp [natD]) (by simp) ?_ (by rw [List.filter_eq_self.mpr fun _ _ => rfl]) (by rw [List.length_map]; omega) ?_
  · intro x hx N hN
    simpa using hN
  · have e1 : (L.map fun _ => D.bl true) = (L.map fun _ => true).map D.bl := by rw [List.map_map]; rfl
    rw [e1, ok_allL get_last]
    have e2 : (L.map fun _ => true).all id = true := by simp
    rw [e2]
    simp
    rw [ok_sortedOf (ds := natD L) (es := natD (List.range n)) rfl (by rw [sortD_nat (by omega), h.sort])]
    rw [rowD_nat]
    refine ⟨by unfold okRg; omega, by rw [natD_length, List.length_range]; omega, ?_⟩
    generalize hS2 : S1 ++ [Ob.lst (List.map (D.bl ∘ fun x => true) L)] = S2
    have k2 : Keep [] S1 S2 := by rw [← hS2]; exact keep_app
    rw [ok_neLN (L := List.range n) (M := List.range n) (get_app get_last) get_last]
    refine ⟨by simp, ?_⟩
    have k3 := k1.trans (k2.trans (keep_app (w := []) (S := S2) (T := [Ob.lst (natD (List.range n))] ++ [Ob.lst (natD (List.range n))])))
    rw [← List.append_assoc] at k3
    exact relabelled_in_ok g h hn fun S' k => hQ S' (k3.trans k)
end
end VMP

/-! K71_A4: drawn orders -/
namespace VMP
open PySem PySem.Spec PyProof.Rows L2 VM
theorem ok_popI {S : Store} {Q : D → Store → Prop} {l : Nat} {ds : List D} {d : D} {r : Int} (h : S[l]? = some (.lst ds)) (h0 : 0 ≤ r) (h1 : r < ds.length) (h2 : ds.length ≤ lim) (hd : ds[r.toNat]? = some d) :
    Ok (popM (.lst l) [.int r]) S Q ↔ Q d (S.set l (.lst (ds.eraseIdx r.toNat))) := by
  have hlim : lim = 1000000 := rfl
  refine ok_iff ?_
  show popLA l r S = _
  unfold popLA
  rw [h]
  dsimp only
  rw [if_pos ⟨by omega, by omega⟩]
  have e : seqIndex? r ds.length = some r.toNat := by
    unfold seqIndex?
    simp
    omega
  rw [e]
  dsimp only
  rw [hd]
  rfl
theorem nat_at {L : List Nat} {r : Int} (h0 : 0 ≤ r) (h1 : r < L.length) : ∃ x, L[r.toNat]? = some x ∧ (natD L)[r.toNat]? = some (.int (x : Int)) := by
  have hl : r.toNat < L.length := by omega
  exact ⟨_, List.getElem?_eq_getElem hl, natD_get (List.getElem?_eq_getElem hl)⟩
theorem natD_erase {L : List Nat} {k : Nat} : (natD L).eraseIdx k = natD (L.eraseIdx k) := by
  unfold natD
  induction L generalizing k with
  | nil => rfl
  | cons a L ih =>
    cases k with
    | zero => rfl
    | succ k => rw [List.map_cons, List.eraseIdx_cons_succ, ih, List.eraseIdx_cons_succ, List.map_cons]
theorem erase_perm {L : List Nat} {k x : Nat} (h : L[k]? = some x) : (x :: L.eraseIdx k).Perm L := by
  induction L generalizing k with
  | nil => cases h
  | cons a L ih =>
    cases k with
    | zero => obtain rfl := Option.some.inj h; exact List.Perm.refl _
    | succ k =>
      rw [List.eraseIdx_cons_succ]
      exact (List.Perm.swap a x _).trans ((ih h).cons a)
theorem Stt.keepW {l c : Nat} {B : Int} {S S' : Store} {w : List Nat} (h : Stt l c B S) (k : Keep w S S') (hl : l ∉ w) (hc : c ∉ w) : Stt l c B S' := by
  obtain ⟨⟨cells, i, v, k', seed, cnt, e1, e2, e3, i0, v0, k0, s0, c0, cB⟩, ne⟩ := h
  exact ⟨⟨cells, i, v, k', seed, cnt, k.at_ _ hl _ e1, k.at_ _ hc _ e2, e3, i0, v0, k0, s0, c0, cB⟩, ne⟩
theorem Stt.lt {l c : Nat} {B : Int} {S : Store} (h : Stt l c B S) : l < S.length ∧ c < S.length := by
  obtain ⟨⟨cells, i, v, k', seed, cnt, e1, e2, _⟩, ne⟩ := h
  exact ⟨lt_of_get e1, lt_of_get e2⟩
theorem order_ok {n l c : Nat} {B : Int} {S : Store} {Q : D → Store → Prop} (st : Stt l c B S) (hn : n ≤ 20) (hB : B < 100000000) (h : ∀ L S', Ord n L → Stt l c (B + n) S' → Keep [l] S S' → Q (.tup (natD L)) S') :
    Ok (f__law_order [.lst l, .int (n : Int)]) S Q := by
  have hlim : lim = 1000000 := rfl
  unfold f__law_order b__law_order
  simp [ok_mFun, ok_sFor, hlim]
  rw [rowD_nat]
  refine ⟨by unfold okRg; omega, by rw [natD_length, List.length_range]; omega, by omega, ?_⟩
  have hlt := st.lt
  have k1 : Keep [] S (S ++ [Ob.lst (natD (List.range n)), Ob.lst []]) := keep_app
  refine ok_for' (fun pre ρ S2 => ∃ L F : List Nat, ∃ y, ρ = [some (D.lst l), some (D.int n), some (D.lst S.length), some (D.lst (S.length + 1)), y] ∧ S2[S.length]? = some (.lst (natD L)) ∧ S2[S.length + 1]? = some (.lst (natD F)) ∧ (F ++ L).Perm (List.range n) ∧
      L.length + pre.length = n ∧ Stt l c (B + pre.length) S2 ∧ Keep [l] S S2) ?_ (fun _ _ _ _ => live_nil) ?_ ?_
  · refine ⟨List.range n, [], none, by simp, ?_, ?_, List.Perm.refl _, by rw [List.length_range]; rfl, ?_, k1.all⟩
    · rw [List.getElem?_append_right (Nat.le_refl _), Nat.sub_self]
      rfl
    · rw [List.getElem?_append_right (by omega), Nat.add_sub_cancel_left]
      rfl
    · simpa using st.keep k1
  · rintro pre d post ρ S2 N Q2 e ⟨L, F, y, rfl, h1, h2, pm, hl, st2, k3⟩ hN
    have hpre : pre.length < n := by
      have := congrArg List.length e
      rw [natD_length, List.length_range, List.length_append, List.length_cons] at this
      omega
    have hlF := pm.length_eq
    rw [List.length_append, List.length_range] at hlF
    simp [h1, h2]
    refine ⟨isLD_lst h1, ?_⟩
    refine draw_k st2 (by omega) (by omega) (by omega) fun r S3 r0 r1 st3 k4 => ?_
    have h1' := k4.at_ _ (by simp; omega) _ h1
    have h2' := k4.at_ _ (by simp; omega) _ h2
    obtain ⟨x, hx, hx2⟩ := nat_at (L := L) r0 r1
    rw [ok_popI h1' r0 (by rw [natD_length]; exact r1) (by rw [natD_length]; omega) hx2]
    have h2'' : (S3.set S.length (Ob.lst ((natD L).eraseIdx r.toNat)))[S.length + 1]? = some (.lst (natD F)) := by rw [List.getElem?_set_ne (by omega)]; exact h2'
    simp [h2'', hlim]
    refine ⟨by omega, hN _ _ ⟨L.eraseIdx r.toNat, F ++ [x], _, rfl, ?_, ?_, ?_, ?_, ?_, ?_⟩⟩
    · rw [List.getElem?_set_ne (by omega), get_set h1', natD_erase]
    · rw [get_set h2'', natD_append]
      rfl
    · rw [List.append_assoc]
      exact ((erase_perm hx).append_left F).trans pm
    · rw [List.length_eraseIdx_of_lt (by omega), List.length_append]
      simp
      omega
    · have kk : Keep [S.length, S.length + 1] S3 ((S3.set S.length (Ob.lst ((natD L).eraseIdx r.toNat))).set (S.length + 1) (Ob.lst (natD F ++ [D.int x]))) := (keep_set (by simp)).trans (keep_set (by simp))
      have := st3.keepW kk (by simp; omega) (by simp; omega)
      simpa [Int.add_assoc] using this
    · exact ((k3.trans k4).setN (Nat.le_refl _)).setN (by omega)
  · rintro ρ S2 ⟨L, F, y, rfl, h1, h2, pm, hl, st2, k3⟩
    rw [natD_length, List.length_range] at hl st2
    have hL : L = [] := List.length_eq_zero_iff.mp (by omega)
    subst hL
    simp [h2]
    rw [List.append_nil] at pm
    have nd := pm.nodup_iff.mpr List.nodup_range
    exact h F S2 ⟨by rw [pm.length_eq, List.length_range], nd, fun x hx => List.mem_range.mp (pm.mem_iff.mp hx)⟩ st2 k3
/-- some of the first numbers, each drawn -/
theorem some_ok {n l c : Nat} {k : Int} {B : Int} {S : Store} {Q : List D → Store → Prop} {lv : Lv} {g : GM} {t : TM} {me : EM} {ρ : VM.Env} (st : Stt l c B S) (hn : n ≤ 20) (hB : B < 100000000) (hk : 0 < k ∧ k < 1000)
    (hs : ∀ (x : Nat) (S1 : Store) (N : Option D → Store → Prop), x < n → Keep [l] S S1 → (Ok (f__law_draw [.lst l, .int k]) S1 fun d S2 => ∃ r : Int, d = .int r ∧ N (if 0 < r then some (.int (x : Int)) else none) S2) → Ok (g (.int (x : Int)) ρ) S1 fun ρ1 S2 => Ok (t ρ1) S2 fun b S3 => if b = true then Ok (me ρ1) S3 fun y S4 => N (some y) S4 else N none S3)
    (hlv : ∀ S1, Keep [l] S S1 → Live lv S1)
    (h : ∀ P S', Pts n P → Stt l c (B + n) S' → Keep [l] S S' → Q (natD P) S') : Ok (compGo lv g t me ρ (natD (List.range n))) S Q := by
  refine ok_comp (fun pre acc S1 => ∃ P, acc = natD P ∧ Pts pre.length P ∧ Stt l c (B + pre.length) S1 ∧ Keep [l] S S1) ⟨[], rfl, ⟨.nil, fun x hx => by cases hx⟩, by simpa using st, Keep.refl⟩ (fun pre acc S1 ⟨_, _, _, _, k1⟩ => hlv S1 k1) ?_ ?_
  · rintro pre d post acc S1 e ⟨P, rfl, hP, st1, k1⟩
    obtain ⟨hi, rfl⟩ : pre.length < n ∧ d = .int (pre.length : Int) := by
      obtain ⟨L1, x, L2, e1, e2, e3, e4⟩ := natD_split e
      have hl : L1.length < n := by
        have := congrArg List.length e1
        rw [List.length_range, List.length_append, List.length_cons] at this
        omega
      have hx : (List.range n)[L1.length]? = some x := by rw [e1, List.getElem?_append_right (Nat.le_refl _), Nat.sub_self]; rfl
      rw [List.getElem?_range hl] at hx
      have := Option.some.inj hx
      rw [e2, natD_length]
      exact ⟨hl, by rw [e3, this]⟩
    have key := hs pre.length S1 (fun o S' => ∃ P', natD P ++ o.toList = natD P' ∧ Pts (pre ++ [D.int (pre.length : Int)]).length P' ∧ Stt l c (B + (pre ++ [D.int (pre.length : Int)]).length) S' ∧ Keep [l] S S') hi k1 ?_
    · refine key.imp fun ρ1 S2 q => q.imp fun b S3 q => ?_
      cases b with
      | true =>
        simp only [if_true] at q ⊢
        exact q.imp fun y S4 ⟨P', a1, a2, a3, a4⟩ => ⟨P', by simpa using a1, a2, a3, a4⟩
      | false =>
        simp only [Bool.false_eq_true, if_false] at q ⊢
        obtain ⟨P', a1, a2, a3, a4⟩ := q
        exact ⟨P', by simpa using a1, a2, a3, a4⟩
    · refine draw_k st1 hk.1 (by omega) (by omega) fun r S2 r0 r1 st2 k2 => ⟨r, rfl, ?_⟩
      have st2' : Stt l c (B + (pre ++ [D.int (pre.length : Int)]).length) S2 := st2.mono (by rw [List.length_append, List.length_singleton]; omega)
      by_cases hr : 0 < r
      · rw [if_pos hr]
        refine ⟨P ++ [pre.length], by simp, ⟨?_, ?_⟩, st2', k1.trans k2⟩
        · rw [List.pairwise_append]
          exact ⟨hP.up, by simp, fun a ha b hb => by rw [List.mem_singleton.mp hb]; exact hP.lt a ha⟩
        · intro x hx
          rw [List.length_append, List.length_singleton]
          rcases List.mem_append.mp hx with hx | hx
          · have := hP.lt x hx; omega
          · rw [List.mem_singleton.mp hx]; omega
      · rw [if_neg hr]
        refine ⟨P, by simp, ⟨hP.up, fun x hx => ?_⟩, st2', k1.trans k2⟩
        rw [List.length_append, List.length_singleton]
        have := hP.lt x hx; omega
  · rintro acc S1 ⟨P, rfl, hP, st1, k1⟩
    rw [natD_length, List.length_range] at hP st1
    exact h P S1 hP st1 k1
end VMP

/-! K71_A5: what hangs together -/
namespace VM
open PySem PySem.Spec PyProof.Rows L2
inductive Reach (A : Adj) (M : List Nat) (x : Nat) : Nat → Prop
  | refl : Reach A M x x
  | step {y z : Nat} : Reach A M x y → z ∈ M → A y z = true → Reach A M x z
section
variable {A : Adj} {M : List Nat} {x y z : Nat}
theorem Reach.trans (h : Reach A M x y) (h' : Reach A M y z) : Reach A M x z := by
  induction h' with
  | refl => exact h
  | step _ hz ha ih => exact ih.step hz ha
theorem Reach.mem (h : Reach A M x y) (hx : x ∈ M) : y ∈ M := by
  cases h with
  | refl => exact hx
  | step _ hz _ => exact hz
theorem Reach.symm (g : Gr A) (hx : x ∈ M) (h : Reach A M x y) : Reach A M y x := by
  induction h with
  | refl => exact .refl
  | @step u v hu hv ha ih => exact (Reach.step .refl (hu.mem hx) (by rw [g.sym]; exact ha)).trans ih
theorem Reach.mono {M' : List Nat} (hM : ∀ a ∈ M, a ∈ M') (h : Reach A M x y) : Reach A M' x y := by
  induction h with
  | refl => exact .refl
  | step _ hz ha ih => exact ih.step (hM _ hz) ha
theorem Reach.congr {B : Adj} (hx : x ∈ M) (hAB : ∀ a b, a ∈ M → b ∈ M → A a b = true → B a b = true) (h : Reach A M x y) : Reach B M x y := by
  induction h with
  | refl => exact .refl
  | step hu hz ha ih => exact ih.step hz (hAB _ _ (hu.mem hx) hz ha)
end
open Classical in
noncomputable def comp (A : Adj) (M : List Nat) (x : Nat) : List Nat := M.filter fun y => decide (Reach A M x y)
open Classical in
noncomputable def lead (A : Adj) (M : List Nat) : List Nat := M.filter fun x => decide (∀ y ∈ M, Reach A M y x → x ≤ y)
noncomputable def pcs (A : Adj) (M : List Nat) : List (List Nat) := (lead A M).map (comp A M)
theorem mem_comp {A : Adj} {M : List Nat} {x y : Nat} : y ∈ comp A M x ↔ y ∈ M ∧ Reach A M x y := by
  unfold comp
  rw [List.mem_filter]
  simp
theorem mem_lead {A : Adj} {M : List Nat} {x : Nat} : x ∈ lead A M ↔ x ∈ M ∧ ∀ y ∈ M, Reach A M y x → x ≤ y := by
  unfold lead
  rw [List.mem_filter]
  simp
theorem comp_up {A : Adj} {M : List Nat} {x : Nat} (up : M.Pairwise (· < ·)) : (comp A M x).Pairwise (· < ·) := up.filter _
theorem lead_up {A : Adj} {M : List Nat} (up : M.Pairwise (· < ·)) : (lead A M).Pairwise (· < ·) := up.filter _
theorem reach_sub {A : Adj} {M M' : List Nat} (g : Gr A) {x y : Nat} (hx : x ∈ M') (hM : ∀ a ∈ M', a ∈ M) (hc : ∀ a ∈ M', ∀ b ∈ M, A a b = true → b ∈ M') : Reach A M' x y ↔ Reach A M x y := by
  refine ⟨fun h => h.mono hM, fun h => ?_⟩
  induction h with
  | refl => exact .refl
  | step hu hz ha ih => exact ih.step (hc _ (ih.mem hx) _ hz ha) ha
end VM
namespace VMP
open PySem PySem.Spec PyProof.Rows L2 VM
section
variable {S : Store} {Q : D → Store → Prop}
theorem ok_popLast {l x : Nat} {L : List Nat} (h : S[l]? = some (.lst (natD (L ++ [x])))) : Ok (popM (.lst l) []) S Q ↔ Q (.int (x : Int)) (S.set l (.lst (natD L))) := by
  refine ok_iff ?_
  show (match S[l]? with
    | some (.lst ds) => (ds[ds.length - 1]?).map fun d => (d, S.set l (.lst ds.dropLast))
    | _ => none) = _
  rw [h]
  simp
theorem sort_up {F : List Nat} (nd : F.Nodup) : (F.mergeSort leN).Pairwise (· < ·) := by
  have p := List.pairwise_mergeSort (le := leN) (fun a b c q r => by simp only [leN, decide_eq_true_eq] at *; omega) (fun a b => by simp only [leN, Bool.or_eq_true, decide_eq_true_eq]; omega) F
  have n : (F.mergeSort leN).Nodup := (List.mergeSort_perm F leN).nodup_iff.mpr nd
  refine (p.and n).imp fun {a b} q => ?_
  simp only [leN, decide_eq_true_eq] at q
  omega
theorem mem_sort {F : List Nat} {y : Nat} : y ∈ F.mergeSort leN ↔ y ∈ F := (List.mergeSort_perm F leN).mem_iff
/-- how far the search is -/
structure Sea (A : Adj) (M : List Nat) (x : Nat) (F T : List Nat) (p : Nat → Prop) : Prop where
  nd : F.Nodup
  fst : x ∈ F
  got : ∀ y ∈ F, Reach A M x y
  sub : ∀ y ∈ T, y ∈ F
  cl : ∀ y ∈ F, y ∉ T → ¬ p y → ∀ z ∈ M, A y z = true → z ∈ F
theorem Sea.len {A : Adj} {M : List Nat} {x : Nat} {F T : List Nat} {p : Nat → Prop} (s : Sea A M x F T p) (hx : x ∈ M) : F.length ≤ M.length := nd_le s.nd fun y hy => (s.got y hy).mem hx
theorem Sea.add {A : Adj} {M : List Nat} {x z q : Nat} {F T : List Nat} (s : Sea A M x F T (· = q)) (hq : q ∈ F) (hz : z ∈ M) (hA : A q z = true) (hn : z ∉ F) : Sea A M x (F ++ [z]) (T ++ [z]) (· = q) := by
  refine ⟨?_, List.mem_append_left _ s.fst, fun y hy => ?_, fun y hy => ?_, fun y hy hyT hyp w hw hA' => ?_⟩
  · rw [List.nodup_append]
    exact ⟨s.nd, by simp, fun a ha b hb e => hn (by rw [List.mem_singleton.mp hb] at e; rw [← e]; exact ha)⟩
  · rcases List.mem_append.mp hy with hy | hy
    · exact s.got y hy
    · rw [List.mem_singleton.mp hy]; exact (s.got q hq).step hz hA
  · rcases List.mem_append.mp hy with hy | hy
    · exact List.mem_append_left _ (s.sub y hy)
    · exact List.mem_append_right _ hy
  · rcases List.mem_append.mp hy with hy | hy
    · exact List.mem_append_left _ (s.cl y hy (fun h => hyT (List.mem_append_left _ h)) hyp w hw hA')
    · exact absurd (List.mem_append_right _ hy) hyT
theorem reached_ok {n r c l x : Nat} {A : Adj} {M : List Nat} (g : Gr A) (hr : S[r]? = some (.lst (lstsD c n))) (hrow : ∀ v, v < n → S[c + v]? = some (.lst (natD (nbr n A v)))) (hd : S[l]? = some (.dct (kvT M))) (up : M.Nodup) (hM : ∀ y ∈ M, y < n) (hn : n ≤ 20) (hx : x ∈ M)
    (hQ : ∀ R S', R.Pairwise (· < ·) → (∀ y, y ∈ R ↔ Reach A M x y) → Keep [] S S' → Q (.lst S'.length) (S' ++ [.lst (natD R)])) : Ok (f_reached_in [.lst r, .int (x : Int), .dct l]) S Q := by
  have hlim : lim = 1000000 := rfl
  have hMl : M.length ≤ n := nd_leN up hM
  unfold f_reached_in b_reached_in
  simp [ok_mFun]
  rw [ok_putM]
  refine ⟨_, key_nat, by rfl, by rw [hlim]; decide, ?_⟩
  simp [hlim]
  have hk0 : dput [] (.num (x : Int)) (.bl true) = kvT [x] := rfl
  rw [hk0]
  refine ok_while (N := 2 * (M.length - 1) + 1) (fun k ρ S2 => ∃ F T y5, ρ = [some (D.lst r), some (D.int ↑x), some (D.dct l), some (D.dct S.length), some (D.lst (S.length + 1)), y5] ∧ S2[S.length]? = some (.dct (kvT F)) ∧ S2[S.length + 1]? = some (.lst (natD T)) ∧
    Sea A M x F T (fun _ => False) ∧ 2 * (M.length - F.length) + T.length ≤ k ∧ k ≤ 100 ∧ Keep [] S S2) (by omega) ?_ ?_
  · refine ⟨[x], [x], none, rfl, ?_, ?_, ⟨by simp, by simp, fun y hy => by rw [List.mem_singleton.mp hy]; exact .refl, fun y hy => hy, fun y hy hyT => absurd hy hyT⟩, ?_, ?_, keep_app⟩
    · rw [List.getElem?_append_right (Nat.le_refl _), Nat.sub_self]; rfl
    · rw [List.getElem?_append_right (by omega), Nat.add_sub_cancel_left]; rfl
    · simp
    · omega
  · rintro k ρ S2 ⟨F, T, y5, rfl, g1, g2, sea, hk, hk100, kp⟩
    have hFM := sea.len hx
    simp [g2]
    rcases List.eq_nil_or_concat T with hT | ⟨T', p, hT⟩
    · subst hT
      refine .inl ⟨rfl, ?_⟩
      rw [ok_sortedOf (ds := natD F) (es := natD (F.mergeSort leN)) (by rw [rowOf_dct g1, keysD_kvT]) (sortD_nat (by omega))]
      refine hQ _ S2 (sort_up sea.nd) (fun y => ?_) kp
      rw [mem_sort]
      refine ⟨sea.got y, fun h => ?_⟩
      induction h with
      | refl => exact sea.fst
      | step _ hz ha ih => exact sea.cl _ ih (by simp) id _ hz ha
    · rw [List.concat_eq_append] at hT
      subst hT
      refine .inr ⟨by simp, ?_⟩
      have hp : p ∈ F := sea.sub p (by simp)
      have hpM : p ∈ M := (sea.got p hp).mem hx
      have hpn := hM p hpM
      simp [ok_sFor, kp.at_ _ (by simp) _ hr]
      refine ⟨isLD_lst g2, ?_⟩
      rw [ok_popLast g2]
      have hS3 : Keep [] S (S2.set (S.length + 1) (.lst (natD T'))) := kp.setN (by omega)
      have k2 : (S2.set (S.length + 1) (Ob.lst (natD T')))[S.length]? = some (.dct (kvT F)) := by rw [List.getElem?_set_ne (by omega)]; exact g1
      have k3 := get_set (o' := Ob.lst (natD T')) g2
      generalize S2.set (S.length + 1) (Ob.lst (natD T')) = S3 at hS3 k2 k3 ⊢
      rw [ok_ixL (hS3.at_ _ (by simp) _ hr)]
      refine ⟨_, VM.atI_nat (lstsD_get hpn), ?_⟩
      refine ⟨_, _, seqLv_lst (hS3.at_ _ (by simp) _ (hrow p hpn)), ?_⟩
      refine ok_for' (fun pre ρ S4 => ∃ F T y5 Z1 Z2, nbr n A p = Z1 ++ Z2 ∧ pre = natD Z1 ∧ ρ = [some (D.lst r), some (D.int ↑x), some (D.dct l), some (D.dct S.length), some (D.lst (S.length + 1)), y5] ∧ S4[S.length]? = some (.dct (kvT F)) ∧ S4[S.length + 1]? = some (.lst (natD T)) ∧
        Sea A M x F T (· = p) ∧ p ∈ F ∧ (∀ z ∈ Z1, z ∈ M → z ∈ F) ∧ 2 * (M.length - F.length) + T.length + 1 ≤ k ∧ Keep [] S S4) ?_ ?_ ?_ ?_
      · refine ⟨F, T', y5, [], _, rfl, rfl, rfl, k2, k3, ⟨sea.nd, sea.fst, sea.got, fun y hy => sea.sub y (List.mem_append_left _ hy), fun y hy hyT hyp z hz hA => ?_⟩, hp, fun z hz => (by cases hz), ?_, hS3⟩
        · refine sea.cl y hy (fun h => ?_) id z hz hA
          rcases List.mem_append.mp h with h | h
          · exact hyT h
          · exact hyp (List.mem_singleton.mp h)
        · simp at hk
          omega
      · rintro pre ρ S4 ⟨_, _, _, _, _, _, _, _, _, _, _, _, _, _, kq⟩
        exact live_one.mpr (kq.at_ _ (by simp) _ (hrow p hpn))
      · rintro pre d post ρ S4 N Q4 e ⟨F, T, y5, Z1, Z2, e1, rfl, rfl, q1, q2, sea, hp, hZ, hk, kq⟩ hN
        have e' : natD (nbr n A p) = natD Z1 ++ d :: post := e
        rw [e1, natD_append] at e'
        have e2 := List.append_cancel_left e'
        cases Z2 with
        | nil => cases e2
        | cons z Z2 =>
          obtain ⟨rfl, e3⟩ := List.cons.inj e2
          have hzn : z ∈ nbr n A p := by rw [e1]; simp
          obtain ⟨hz1, hzA⟩ := mem_nbr.mp hzn
          have hFM := sea.len hx
          simp
          rw [ok_inT (.inl (kq.at_ _ (by simp) _ hd))]
          have next : ∀ S5 F' T', S5[S.length]? = some (.dct (kvT F')) → S5[S.length + 1]? = some (.lst (natD T')) → Sea A M x F' T' (· = p) → p ∈ F' → (∀ y ∈ F, y ∈ F') → (z ∈ M → z ∈ F') → 2 * (M.length - F'.length) + T'.length + 1 ≤ k → Keep [] S S5 →
              N [some (D.lst r), some (D.int ↑x), some (D.dct l), some (D.dct S.length), some (D.lst (S.length + 1)), some (.int (z : Int))] S5 := fun S5 F' T' a1 a2 a3 a4 a5 a6 a7 a8 =>
            hN _ _ ⟨F', T', _, Z1 ++ [z], Z2, by rw [e1]; simp, by simp, rfl, a1, a2, a3, a4, fun y hy hyM => by
              rcases List.mem_append.mp hy with hy | hy
              · exact a5 y (hZ y hy hyM)
              · rw [List.mem_singleton.mp hy] at hyM ⊢; exact a6 hyM, a7, a8⟩
          by_cases c1 : z ∈ M
          · refine .inr ⟨by rw [decide_eq_true c1], ?_⟩
            rw [ok_ninT (.inl q1)]
            by_cases c2 : z ∈ F
            · refine .inl ⟨by simp [c2], next S4 F T q1 q2 sea hp (fun y hy => hy) (fun _ => c2) hk kq⟩
            · refine .inr ⟨by simp [c2], ?_⟩
              have sea' := sea.add hp c1 hzA c2
              have hlen := sea'.len hx
              rw [List.length_append, List.length_singleton] at hlen
              rw [ok_setT q1 (by omega), if_neg c2]
              have q2' : (S4.set S.length (Ob.dct (kvT (F ++ [z]))))[S.length + 1]? = some (.lst (natD T)) := by rw [List.getElem?_set_ne (by omega)]; exact q2
              have hT : T.length ≤ 100 := by omega
              simp [q2', hlim]
              refine ⟨by omega, next _ (F ++ [z]) (T ++ [z]) ?_ ?_ sea' (List.mem_append_left _ hp) (fun y hy => List.mem_append_left _ hy) (fun _ => by simp) ?_ ((kq.setN (Nat.le_refl _)).setN (by omega))⟩
              · rw [List.getElem?_set_ne (by omega), get_set q1]
              · rw [get_set q2', natD_append]; rfl
              · simp; omega
          · refine .inl ⟨by rw [decide_eq_false c1], next S4 F T q1 q2 sea hp (fun y hy => hy) (fun h => absurd h c1) hk kq⟩
      · rintro ρ S4 ⟨F, T, y5, Z1, Z2, e1, e2, rfl, q1, q2, sea, hp, hZ, hk, kq⟩
        obtain rfl := natD_inj.mp e2
        simp
        refine ⟨2 * (M.length - F.length) + T.length, by omega, F, q1, T, q2, ⟨sea.nd, sea.fst, sea.got, sea.sub, fun y hy hyT _ z hz hA => ?_⟩, Nat.le_refl _, by omega, kq⟩
        by_cases c : y = p
        · subst c
          exact hZ z (mem_nbr.mpr ⟨hM z hz, hA⟩) hz
        · exact sea.cl y hy hyT c z hz hA
end
end VMP

/-! K71_A6: pieces -/
namespace VMP
open PySem PySem.Spec PyProof.Rows L2 VM
/-- lists of numbers and the places where they stand -/
def LP (S : Store) (ps : List (Nat × List Nat)) : Prop := ∀ z ∈ ps, S[z.1]? = some (.lst (natD z.2))
def rowsD (ps : List (Nat × List Nat)) : List D := ps.map fun z => D.lst z.1
theorem LP.keep {S S' : Store} {w : List Nat} {ps : List (Nat × List Nat)} (h : LP S ps) (k : Keep w S S') (hw : ∀ z ∈ ps, z.1 ∉ w) : LP S' ps := fun z hz => k.at_ _ (hw z hz) _ (h z hz)
theorem LP.keep0 {S S' : Store} {ps : List (Nat × List Nat)} (h : LP S ps) (k : Keep [] S S') : LP S' ps := h.keep k fun _ _ => by simp
theorem rowsD_append {a b : List (Nat × List Nat)} : rowsD (a ++ b) = rowsD a ++ rowsD b := List.map_append
theorem rowsD_length {a : List (Nat × List Nat)} : (rowsD a).length = a.length := List.length_map _
theorem map_split {α β : Type} {f : α → β} {L : List α} {pre post : List β} {d : β} (h : L.map f = pre ++ d :: post) : ∃ A x B, L = A ++ x :: B ∧ pre = A.map f ∧ d = f x ∧ post = B.map f := by
  obtain ⟨A, B, e1, e2, e3⟩ := List.map_eq_append_iff.mp h
  obtain ⟨x, C, e4, e5, e6⟩ := List.map_eq_cons_iff.mp e3
  exact ⟨A, x, C, by rw [e1, e4], e2.symm, e5.symm, e6.symm⟩
section
variable {S : Store} {Q : D → Store → Prop}
/-- what is left behind the points of L1 -/
structure Left (A : Adj) (P L1 M : List Nat) : Prop where
  nd : M.Nodup
  mem : ∀ y, y ∈ M ↔ y ∈ P ∧ ∀ x ∈ L1, ¬ Reach A P x y
theorem drop_ok {la lr : Nat} {M R : List Nat} {x0 x1 x2 x4 x5 x7 : Option D} {Q : Out → Store → Prop} (h1 : S[la]? = some (.dct (kvT M))) (h2 : S[lr]? = some (.lst (natD R))) (nd : M.Nodup) (hM : M.length ≤ 1000)
    (hQ : ∀ S', Keep [] S S' → S'[S.length]? = some (.dct (kvT (M.filter fun y => !decide (y ∈ R)))) → Q (.nx [x0, x1, x2, some (.dct S.length), x4, x5, some (.lst lr), x7]) S') :
    Ok (lkM 3 (sSet 3 (mDComp [7] (mSeqD (mVar 3)) (gNm 7) (tV (m2 ninA (mVar 7) (mVar 6))) (mVar 7) (mC (D.bl true)))) [x0, x1, x2, some (.dct la), x4, x5, some (.lst lr), x7]) S Q := by
  have hlim : lim = 1000000 := rfl
  rw [ok_lkM (l := la) (kvs := kvT M) rfl h1]
  have hne : la ≠ lr := fun e => by rw [e, h2] at h1; cases h1
  have g1 : (S.set la (.dlk (kvT M)))[la]? = some (.dlk (kvT M)) := get_set h1
  have g2 : (S.set la (.dlk (kvT M)))[lr]? = some (.lst (natD R)) := by rw [List.getElem?_set_ne hne]; exact h2
  rw [ok_sSet, ok_mDComp, ok_mSeqD]
  simp
  refine ⟨_, ⟨⟨_, h1⟩, rfl⟩, ?_⟩
  rw [keysD_kvT]
  refine ok_dcomp' (fun pre acc S2 => S2 = S.set la (.dlk (kvT M)) ∧ ∃ L1 L2, M = L1 ++ L2 ∧ pre = natD L1 ∧ acc = kvT (L1.filter fun y => !decide (y ∈ R))) ⟨rfl, [], _, rfl, rfl, rfl⟩ (fun pre acc S2 ⟨e, _⟩ => by subst e; exact live_one.mpr g1) ?_ ?_
  · rintro pre d post acc S2 N e ⟨rfl, L1, L2, e1, rfl, rfl⟩ hN
    obtain ⟨A1, p, B1, e2, e3, rfl, e4⟩ := natD_split e
    obtain rfl := natD_inj.mp e3
    have nd' := nd
    rw [e2] at nd'
    have hp : p ∉ L1 := fun h => (List.nodup_append.mp nd').2.2 p h p (by simp) rfl
    simp
    rw [ok_ninNL g2]
    by_cases c : p ∈ R
    · refine .inl ⟨by simp [c], hN _ _ ⟨rfl, L1 ++ [p], B1, by rw [e2]; simp, by simp, by simp [c]⟩⟩
    · refine .inr ⟨by simp [c], ?_⟩
      rw [ok_putM]
      refine ⟨_, key_nat, kvT_fits, ?_, ?_⟩
      · rw [kvT_length]
        have a1 := List.length_filter_le (fun y => !decide (y ∈ R)) L1
        have := congrArg List.length e2
        rw [List.length_append] at this
        omega
      · rw [kvT_put, if_neg (fun h => hp (List.mem_filter.mp h).1)]
        exact hN _ _ ⟨rfl, L1 ++ [p], B1, by rw [e2]; simp, by simp, by simp [c]⟩
  · rintro acc S2 ⟨rfl, L1, L2, e1, e2, rfl⟩
    obtain rfl := natD_inj.mp e2
    have hla := lt_of_get h1
    refine ⟨get_app g1, ?_⟩
    rw [List.length_set]
    refine hQ _ ⟨?_, fun i _ o ho => ?_⟩ ?_
    · rw [List.length_set, List.length_append, List.length_set]; omega
    · by_cases e : i = la
      · subst e
        rw [get_set (get_app g1), ← h1, ho]
      · rw [List.getElem?_set_ne (fun z => e z.symm)]
        refine get_app ?_
        rw [List.getElem?_set_ne (fun z => e z.symm)]
        exact ho
    · rw [List.getElem?_set_ne (by omega), List.getElem?_append_right (by rw [List.length_set]; exact Nat.le_refl _), List.length_set, Nat.sub_self]
      rfl
theorem pieces_among_ok {n : Nat} {P : List Nat} {A : Adj} {dp : D} {lv : Lv} (g : Gr A) (h : Pts n P) (hn : n ≤ 20) (hs : seqLv S dp = some (natD P, lv)) (hr : ∀ S', Keep [] S S' → seqLv S' dp = some (natD P, lv) ∧ rowOf S' dp = some (natD P) ∧ Live lv S')
    (hQ : ∀ r ps S', S'[r]? = some (.lst (rowsD ps)) → LP S' ps → ps.map (·.2) = pcs A P → Keep [] S S' → S.length ≤ r → Q (.lst r) S') : Ok (f_pieces_among [gD n A, dp]) S Q := by
  have hlim : lim = 1000000 := rfl
  have hl := h.len
  have nd := up_nd h.up
  unfold f_pieces_among b_pieces_among
  simp [ok_mFun, ok_sFor]
  refine (near_ok g (by omega)).imp fun d S1 ⟨r, c, e, h1, h2, k1, hr1, hc1⟩ => ?_
  subst e
  rw [ok_mDComp]
  simp
  refine ⟨_, _, (hr S1 k1).1, ?_⟩
  refine ok_dcomp' (fun pre acc S2 => S2 = S1 ∧ ∃ L1 L2, P = L1 ++ L2 ∧ pre = natD L1 ∧ acc = kvT L1) ⟨rfl, [], _, rfl, rfl, rfl⟩ (fun pre acc S2 ⟨e, _⟩ => by subst e; exact (hr _ k1).2.2) ?_ ?_
  · rintro pre d post acc S2 N e ⟨rfl, L1, L2, e1, rfl, rfl⟩ hN
    obtain ⟨A1, p, B1, e2, e3, rfl, e4⟩ := natD_split e
    obtain rfl := natD_inj.mp e3
    rw [e2] at nd
    have hp : p ∉ L1 := fun h => (List.nodup_append.mp nd).2.2 p h p (by simp) rfl
    simp
    rw [ok_putM]
    refine ⟨_, key_nat, kvT_fits, ?_, ?_⟩
    · rw [kvT_length]
      have := congrArg List.length e2
      rw [List.length_append] at this
      omega
    · rw [kvT_put, if_neg hp]
      exact hN _ _ ⟨rfl, L1 ++ [p], B1, by rw [e2]; simp, by simp, rfl⟩
  · rintro acc S2 ⟨rfl, L1, L2, e1, e2, rfl⟩
    obtain rfl := natD_inj.mp e2
    have hps : P.mergeSort leN = P := sort_nat nd h.up fun x => Iff.rfl
    have hfd : (S2 ++ [Ob.dct (kvT P), Ob.lst []])[S2.length]? = some (.dct (kvT P)) := by rw [List.getElem?_append_right (Nat.le_refl _), Nat.sub_self]; rfl
    have hfl : (S2 ++ [Ob.dct (kvT P), Ob.lst []])[S2.length + 1]? = some (.lst []) := by rw [List.getElem?_append_right (by omega), Nat.add_sub_cancel_left]; rfl
    have kA : Keep [] S2 (S2 ++ [Ob.dct (kvT P), Ob.lst []]) := keep_app
    generalize S2 ++ [Ob.dct (kvT P), Ob.lst []] = S3 at hfd hfl kA ⊢
    rw [ok_sortedOf (ds := natD P) (es := natD P) (hr S3 (k1.trans kA)).2.1 (by rw [sortD_nat (by omega), hps])]
    refine ⟨_, _, seqLv_lst get_last, ?_⟩
    have kB : Keep [] S2 (S3 ++ [Ob.lst (natD P)]) := kA.trans keep_app
    refine ok_for' (fun pre ρ S4 => ∃ L1 L2 M ps la y5 y6, P = L1 ++ L2 ∧ pre = natD L1 ∧ ρ = [some (gD n A), some dp, some (D.lst r), some (.dct la), some (D.lst (S2.length + 1)), y5, y6, none] ∧ S4[la]? = some (.dct (kvT M)) ∧ Left A P L1 M ∧
      S4[S2.length + 1]? = some (.lst (rowsD ps)) ∧ LP S4 ps ∧ (∀ z ∈ ps, z.1 ≠ S2.length + 1) ∧ ps.map (·.2) = ((lead A P).filter fun x => decide (x ∈ L1)).map (comp A P) ∧ ps.length ≤ L1.length ∧ Keep [] S2 S4 ∧ S4[S3.length]? = some (.lst (natD P))) ?_ ?_ ?_ ?_
    · exact ⟨[], P, P, [], S2.length, none, none, rfl, rfl, rfl, get_app hfd, ⟨nd, fun y => ⟨fun q => ⟨q, fun x hx => by cases hx⟩, fun q => q.1⟩⟩, get_app hfl, fun z hz => (by cases hz), fun z hz => (by cases hz), by simp, Nat.le_refl _, kB, get_last⟩
    · rintro pre ρ S4 ⟨_, _, _, _, _, _, _, _, _, _, _, _, _, _, _, _, _, _, q⟩
      exact live_one.mpr q
    · rintro pre d post ρ S4 N Q4 e ⟨L1, L2, M, ps, la, y5, y6, e1, rfl, rfl, g1, lf, g2, hps', hne, hmap, hpl, k4, g4⟩ hN
      have e' : natD P = natD L1 ++ d :: post := e
      rw [e1, natD_append] at e'
      have e2 := List.append_cancel_left e'
      cases L2 with
      | nil => cases e2
      | cons p L2 =>
        obtain ⟨rfl, e3⟩ := List.cons.inj e2
        have hpP : p ∈ P := by rw [e1]; simp
        have hup := h.up
        rw [e1, List.pairwise_append] at hup
        obtain ⟨_, up2, hlt⟩ := hup
        have before : ∀ x ∈ L1, x < p := fun x hx => hlt x hx p (by simp)
        have after : ∀ y ∈ P, y < p → y ∈ L1 := fun y hy hyp => by
          rw [e1] at hy
          rcases List.mem_append.mp hy with hy | hy
          · exact hy
          · rcases List.mem_cons.mp hy with hy | hy
            · omega
            · have := (List.pairwise_cons.mp up2).1 y hy; omega
        simp
        rw [ok_inT (.inl g1)]
        by_cases c : p ∈ M
        · refine .inr ⟨by rw [decide_eq_true c], ?_⟩
          obtain ⟨_, hnot⟩ := (lf.mem p).mp c
          have hMP : ∀ y ∈ M, y ∈ P := fun y hy => ((lf.mem y).mp hy).1
          have hMl : M.length ≤ 20 := by have := nd_leN lf.nd (n := n) fun y hy => h.lt y (hMP y hy); omega
          have hiff : ∀ y, Reach A M p y ↔ Reach A P p y := fun y => reach_sub g c hMP fun a ha b hb hab => (lf.mem b).mpr ⟨hb, fun x hx hxb => ((lf.mem a).mp ha).2 x hx (hxb.step (hMP a ha) (by rw [g.sym]; exact hab))⟩
          have kk : Keep [] S2 S4 := k4
          refine reached_ok g (kk.at_ _ (by simp) _ h1) (fun v hv => kk.at_ _ (by simp) _ (h2 v hv)) g1 lf.nd (fun y hy => h.lt y (hMP y hy)) hn c fun R S5 hRup hR k5 => ?_
          have g2' := get_app (T := [Ob.lst (natD R)]) (k5.at_ _ (by simp) _ g2)
          simp [g2', rowsD_length, hlim]
          refine ⟨by
            have := congrArg List.length e1
            simp at this
            omega, ?_⟩
          have hRc : R = comp A P p := rise_eq (fun a => Nat.lt_irrefl a) (fun a b h => Nat.not_lt.mpr (Nat.le_of_lt h)) hRup (comp_up h.up) fun y => by
            rw [hR, hiff, mem_comp]
            exact ⟨fun q => ⟨q.mem hpP, q⟩, fun q => q.2⟩
          have hl5 : S2.length + 1 < S5.length := lt_of_get (k5.at_ _ (by simp) _ g2)
          have hlaf : la ≠ S2.length + 1 := fun e => by rw [e, g2] at g1; cases g1
          have m1 : ((S5 ++ [Ob.lst (natD R)]).set (S2.length + 1) (Ob.lst (rowsD ps ++ [D.lst S5.length])))[la]? = some (.dct (kvT M)) := by
            rw [List.getElem?_set_ne (Ne.symm hlaf)]
            exact get_app (k5.at_ _ (by simp) _ g1)
          have m2 : ((S5 ++ [Ob.lst (natD R)]).set (S2.length + 1) (Ob.lst (rowsD ps ++ [D.lst S5.length])))[S5.length]? = some (.lst (natD R)) := by
            rw [List.getElem?_set_ne (by omega)]
            exact get_last
          have m3 : ((S5 ++ [Ob.lst (natD R)]).set (S2.length + 1) (Ob.lst (rowsD ps ++ [D.lst S5.length])))[S2.length + 1]? = some (.lst (rowsD (ps ++ [(S5.length, R)]))) := by
            rw [get_set g2', rowsD_append]; rfl
          have m4 : LP ((S5 ++ [Ob.lst (natD R)]).set (S2.length + 1) (Ob.lst (rowsD ps ++ [D.lst S5.length]))) (ps ++ [(S5.length, R)]) := fun z hz => by
            rcases List.mem_append.mp hz with hz | hz
            · rw [List.getElem?_set_ne (Ne.symm (hne z hz))]
              exact get_app (k5.at_ _ (by simp) _ (hps' z hz))
            · rw [List.mem_singleton.mp hz]; exact m2
          have m5 : Keep [] S2 ((S5 ++ [Ob.lst (natD R)]).set (S2.length + 1) (Ob.lst (rowsD ps ++ [D.lst S5.length]))) := ((k4.trans k5).app).setN (by omega)
          have hS3f : S3.length ≠ S2.length + 1 := fun e => by
            have := lt_of_get hfl
            omega
          have m6 : ((S5 ++ [Ob.lst (natD R)]).set (S2.length + 1) (Ob.lst (rowsD ps ++ [D.lst S5.length])))[S3.length]? = some (.lst (natD P)) := by
            rw [List.getElem?_set_ne (Ne.symm hS3f)]
            exact get_app (k5.at_ _ (by simp) _ g4)
          generalize (S5 ++ [Ob.lst (natD R)]).set (S2.length + 1) (Ob.lst (rowsD ps ++ [D.lst S5.length])) = S6 at m1 m2 m3 m4 m5 m6 ⊢
          refine drop_ok m1 m2 lf.nd (by omega) fun S7 k7 g7 => ?_
          simp
          have hlead : p ∈ lead A P := mem_lead.mpr ⟨hpP, fun y hy hyp => Nat.le_of_not_lt fun hlt' => hnot y (after y hy hlt') hyp⟩
          refine hN _ _ ⟨L1 ++ [p], L2, M.filter fun y => !decide (y ∈ R), ps ++ [(S5.length, R)], S6.length, _, _, by rw [e1]; simp, by simp, rfl, g7, ?_, k7.at_ _ (by simp) _ m3, m4.keep0 k7, ?_, ?_, ?_, m5.trans k7, k7.at_ _ (by simp) _ m6⟩
          · refine ⟨lf.nd.filter _, fun y => ?_⟩
            rw [List.mem_filter, lf.mem y]
            constructor
            · rintro ⟨⟨a1, a2⟩, a3⟩
              refine ⟨a1, fun w hw hwy => ?_⟩
              rcases List.mem_append.mp hw with hw | hw
              · exact a2 w hw hwy
              · rw [List.mem_singleton.mp hw] at hwy
                have : y ∈ R := (hR y).mpr ((hiff y).mpr hwy)
                simp [this] at a3
            · rintro ⟨a1, a2⟩
              refine ⟨⟨a1, fun w hw => a2 w (List.mem_append_left _ hw)⟩, ?_⟩
              have : y ∉ R := fun hy => a2 p (by simp) ((hiff y).mp ((hR y).mp hy))
              simp [this]
          · intro z hz
            rcases List.mem_append.mp hz with hz | hz
            · exact hne z hz
            · rw [List.mem_singleton.mp hz]; dsimp only; omega
          · rw [List.map_append, hmap]
            have hsplit : ((lead A P).filter fun x => decide (x ∈ L1 ++ [p])) = ((lead A P).filter fun x => decide (x ∈ L1)) ++ [p] := by
              refine rise_eq (fun a => Nat.lt_irrefl a) (fun a b h => Nat.not_lt.mpr (Nat.le_of_lt h)) ((lead_up h.up).filter _) ?_ fun y => ?_
              · rw [List.pairwise_append]
                refine ⟨(lead_up h.up).filter _, by simp, fun a ha b hb => ?_⟩
                rw [List.mem_singleton.mp hb]
                exact before a (by simpa using (List.mem_filter.mp ha).2)
              · simp only [List.mem_filter, List.mem_append, List.mem_singleton, decide_eq_true_eq]
                constructor
                · rintro ⟨a1, a2 | a2⟩
                  · exact .inl ⟨a1, a2⟩
                  · exact .inr a2
                · rintro (⟨a1, a2⟩ | a2)
                  · exact ⟨a1, .inl a2⟩
                  · exact ⟨a2 ▸ hlead, .inr a2⟩
            rw [hsplit, List.map_append]
            simp [hRc]
          · simp; omega
        · refine .inl ⟨by rw [decide_eq_false c], hN _ _ ⟨L1 ++ [p], L2, M, ps, la, _, _, by rw [e1]; simp, by simp, rfl, g1, ?_, g2, hps', hne, ?_, ?_, k4, g4⟩⟩
          · obtain ⟨x, hx, hxp⟩ : ∃ x ∈ L1, Reach A P x p := Classical.byContradiction fun hno => c ((lf.mem p).mpr ⟨hpP, fun x hx hxp => hno ⟨x, hx, hxp⟩⟩)
            refine ⟨lf.nd, fun y => ?_⟩
            rw [lf.mem y]
            refine ⟨fun ⟨a1, a2⟩ => ⟨a1, fun w hw hwy => ?_⟩, fun ⟨a1, a2⟩ => ⟨a1, fun w hw => a2 w (List.mem_append_left _ hw)⟩⟩
            rcases List.mem_append.mp hw with hw | hw
            · exact a2 w hw hwy
            · rw [List.mem_singleton.mp hw] at hwy
              exact a2 x hx (hxp.trans hwy)
          · obtain ⟨x, hx, hxp⟩ : ∃ x ∈ L1, Reach A P x p := Classical.byContradiction fun hno => c ((lf.mem p).mpr ⟨hpP, fun x hx hxp => hno ⟨x, hx, hxp⟩⟩)
            have hnl : p ∉ lead A P := fun hp => by
              have := (mem_lead.mp hp).2 x (by rw [e1]; exact List.mem_append_left _ hx) hxp
              have := before x hx
              omega
            rw [hmap]
            congr 1
            refine List.filter_congr fun y hy => ?_
            have : y ≠ p := fun e => hnl (e ▸ hy)
            simp [this]
          · simp; omega
    · rintro ρ S4 ⟨L1, L2, M, ps, la, y5, y6, e1, e2, rfl, g1, lf, g2, hps', hne, hmap, hpl, k4, g4⟩
      obtain rfl := natD_inj.mp e2
      simp
      refine hQ _ ps S4 g2 hps' ?_ (k1.trans k4) (by have := k1.len; omega)
      rw [hmap]
      unfold pcs
      congr 1
      refine List.filter_eq_self.mpr fun x hx => ?_
      simpa using (mem_lead.mp hx).1
end
end VMP

/-! K71_A7: pieces_of, hangs, near -/
namespace VMP
open PySem PySem.Spec PyProof.Rows L2 VM
section
variable {S : Store} {Q : D → Store → Prop}
theorem comp_len {A : Adj} {M : List Nat} {x : Nat} : (comp A M x).length ≤ M.length := List.length_filter_le _ _
theorem pcs_len {A : Adj} {M : List Nat} : (pcs A M).length ≤ M.length := by
  unfold pcs lead
  rw [List.length_map]
  exact List.length_filter_le _ _
def tupsD (Rs : List (List Nat)) : List D := Rs.map fun R => D.tup (natD R)
theorem pts_range (n : Nat) : Pts n (List.range n) := ⟨List.pairwise_lt_range, fun x hx => List.mem_range.mp hx⟩
theorem pieces_of_ok {n : Nat} {A : Adj} (g : Gr A) (hn : n ≤ 20) (hQ : ∀ S', Keep [] S S' → Q (.tup (tupsD (pcs A (List.range n)))) S') : Ok (f_pieces_of [gD n A]) S Q := by
  have hlim : lim = 1000000 := rfl
  unfold f_pieces_of b_pieces_of
  simp [ok_mFun]
  refine check_ok hn fun S1 k1 => ?_
  rw [ok_mComp]
  simp
  unfold f_pieces_in b_pieces_in
  simp [ok_mFun, gD]
  rw [rowD_nat]
  refine ⟨by unfold okRg; omega, by rw [natD_length, List.length_range]; omega, ?_⟩
  refine pieces_among_ok g (pts_range n) hn (seqLv_lst get_last) (fun S' k => ⟨seqLv_lst (k.at_ _ (by simp) _ get_last), seq_lst (k.at_ _ (by simp) _ get_last), live_one.mpr (k.at_ _ (by simp) _ get_last)⟩) fun r ps S2 h1 h2 h3 k2 hr => ?_
  simp
  refine ⟨_, _, ⟨_, h1, rfl, rfl⟩, ?_⟩
  have kA := k1.trans (keep_app.trans k2)
  have hlen : ps.length ≤ n := by
    have a1 := congrArg List.length h3
    have a2 := pcs_len (A := A) (M := List.range n)
    rw [List.length_map] at a1
    rw [List.length_range] at a2
    omega
  refine ok_pick (L := ps) (f := fun z => D.lst z.1) (p := fun _ => true) (h := fun z => D.tup (natD z.2)) (live_one.mpr h1) ?_ ?_
  · intro z hz N hN
    simp
    exact ⟨_, h2 z hz, by simpa using hN⟩
  · rw [List.filter_eq_self.mpr fun _ _ => rfl]
    simp [hlim]
    refine ⟨by omega, ?_⟩
    have e : (ps.map fun z => D.tup (natD z.2)) = tupsD (pcs A (List.range n)) := by
      unfold tupsD
      rw [← h3, List.map_map]
      rfl
    rw [e]
    exact hQ _ (kA.trans keep_app)
theorem hangs_in_ok {n : Nat} {P : List Nat} {A : Adj} (g : Gr A) (h : Pts n P) (hn : n ≤ 20) (hQ : ∀ S', Keep [] S S' → Q (.bl (decide ((pcs A P).length = 1))) S') : Ok (f_hangs_in [gD n A, .tup (natD P)]) S Q := by
  unfold f_hangs_in b_hangs_in
  simp [ok_mFun]
  refine pieces_among_ok (lv := []) g h hn rfl (fun S' _ => ⟨rfl, rfl, live_nil⟩) fun r ps S2 h1 h2 h3 k2 hr => ?_
  simp [h1, rowsD_length]
  have e : ps.length = (pcs A P).length := by rw [← h3, List.length_map]
  have e2 : decide ((ps.length : Int) = 1) = decide ((pcs A P).length = 1) := decide_eq_decide.mpr (by omega)
  rw [e2]
  exact hQ S2 k2
theorem hangs_ok {n : Nat} {P : List Nat} {A : Adj} (g : Gr A) (h : Pts n P) (hn : n ≤ 20) (hQ : ∀ S', Keep [] S S' → Q (.bl (decide ((pcs A P).length = 1))) S') : Ok (f_hangs [gD n A, .tup (natD P)]) S Q := by
  unfold f_hangs b_hangs
  simp [ok_mFun]
  refine check_ok hn fun S1 k1 => ?_
  simp [gD]
  refine are_points_ok h (by omega) fun S2 k2 => ?_
  simp
  exact hangs_in_ok g h hn fun S3 k3 => hQ S3 ((k1.trans k2).trans k3)
theorem near_tup_ok {n : Nat} {A : Adj} (g : Gr A) (hn : n ≤ 20) (hQ : ∀ S', Keep [] S S' → Q (.tup (tupsD ((List.range n).map fun v => nbr n A v))) S') : Ok (f_near [gD n A]) S Q := by
  have hlim : lim = 1000000 := rfl
  unfold f_near b_near
  simp [ok_mFun]
  refine check_ok hn fun S1 k1 => ?_
  rw [ok_mComp]
  simp
  refine (near_ok g (by omega)).imp fun d S2 ⟨r, c, e, h1, h2, k2, hr1, hc1⟩ => ?_
  subst e
  refine ⟨_, _, seqLv_lst h1, ?_⟩
  unfold lstsD
  refine ok_pick (L := List.range n) (f := fun j => D.lst (c + j)) (p := fun _ => true) (h := fun v => D.tup (natD (nbr n A v))) (live_one.mpr h1) ?_ ?_
  · intro v hv N hN
    simp
    exact ⟨_, h2 v (List.mem_range.mp hv), by simpa using hN⟩
  · rw [List.filter_eq_self.mpr fun _ _ => rfl]
    simp [hlim]
    refine ⟨by omega, ?_⟩
    have e : ((List.range n).map fun v => D.tup (natD (nbr n A v))) = tupsD ((List.range n).map fun v => nbr n A v) := by
      unfold tupsD
      rw [List.map_map]
      rfl
    rw [e]
    exact hQ _ ((k1.trans k2).trans keep_app)
end
end VMP

/-! K71_A8: the plain law: edges, pieces -/
namespace VM
open PySem PySem.Spec PyProof.Rows L2
theorem gD_congr {n : Nat} {A B : Adj} (h : ∀ x y, x < y → y < n → A x y = B x y) : gD n A = gD n B := by
  have : EL n A = EL n B := by
    unfold EL
    refine List.filter_congr fun p hp => ?_
    obtain ⟨h1, h2⟩ := mem_allP.mp (show (p.1, p.2) ∈ allP n from hp)
    exact h _ _ h1 h2
  unfold gD
  rw [this]
theorem foundL_count : ∀ n : Nat, 2 * (foundL n).length = n * (n - 1)
  | 0 => rfl
  | n + 1 => by
    rw [foundL_succ, List.length_append, List.length_map, List.length_range, Nat.mul_add, foundL_count n, Nat.add_sub_cancel]
    cases n with
    | zero => rfl
    | succ k =>
      show (k + 1) * k + 2 * (k + 1) = (k + 2) * (k + 1)
      rw [Nat.mul_comm 2 (k + 1), ← Nat.mul_add, Nat.mul_comm]
theorem allP_count (n : Nat) : 2 * (allP n).length = n * (n - 1) := by
  rw [← foundL_sort n, (List.mergeSort_perm _ _).length_eq, foundL_count]
theorem filter_not {α : Type} (p : α → Bool) : ∀ L : List α, (L.filter p).length + (L.filter fun x => !p x).length = L.length
  | [] => rfl
  | a :: L => by
    have ih := filter_not p L
    rw [List.filter_cons, List.filter_cons]
    cases h : p a <;> simp <;> omega
theorem EL_cpl {n : Nat} {A : Adj} : 2 * ((EL n A).length + (EL n (cpl A)).length) = n * (n - 1) := by
  have e : EL n (cpl A) = (allP n).filter fun p => !A p.1 p.2 := by
    unfold EL
    refine List.filter_congr fun p hp => ?_
    obtain ⟨h1, h2⟩ := mem_allP.mp (show (p.1, p.2) ∈ allP n from hp)
    have : ¬ p.1 = p.2 := by omega
    unfold cpl
    simp [this]
  rw [e]
  unfold EL
  rw [filter_not, allP_count]
/-! ### pieces -/
section
variable {A : Adj} {M : List Nat}
theorem lead_of (up : M.Pairwise (· < ·)) (g : Gr A) {x : Nat} (hx : x ∈ M) : ∃ l ∈ lead A M, Reach A M l x := by
  have hne : comp A M x ≠ [] := fun e => by
    have : x ∈ comp A M x := mem_comp.mpr ⟨hx, .refl⟩
    rw [e] at this
    cases this
  cases hc : comp A M x with
  | nil => exact absurd hc hne
  | cons l C =>
    have hl : l ∈ comp A M x := by rw [hc]; simp
    obtain ⟨h1, h2⟩ := mem_comp.mp hl
    refine ⟨l, mem_lead.mpr ⟨h1, fun y hy hyl => ?_⟩, h2.symm g hx⟩
    have hy' : y ∈ comp A M x := mem_comp.mpr ⟨hy, h2.trans (hyl.symm g hy)⟩
    have hp := comp_up (A := A) (x := x) up
    rw [hc] at hy' hp
    rcases List.mem_cons.mp hy' with e | e
    · rw [e]; exact Nat.le_refl _
    · exact Nat.le_of_lt ((List.pairwise_cons.mp hp).1 y e)
theorem lead_same {x y : Nat} (g : Gr A) (hx : x ∈ lead A M) (hy : y ∈ lead A M) (h : Reach A M x y) : x = y := by
  obtain ⟨h1, h2⟩ := mem_lead.mp hx
  obtain ⟨h3, h4⟩ := mem_lead.mp hy
  have := h2 y h3 (h.symm g h1)
  have := h4 x h1 h
  omega
theorem one_of (up : M.Pairwise (· < ·)) (g : Gr A) (hM : M ≠ []) (h : ∀ x ∈ M, ∀ y ∈ M, Reach A M x y) : (pcs A M).length = 1 := by
  unfold pcs
  rw [List.length_map]
  cases hm : M with
  | nil => exact absurd hm hM
  | cons a r =>
    rw [← hm]
    obtain ⟨l, hl, _⟩ := lead_of (A := A) up g (x := a) (by rw [hm]; simp)
    cases hc : lead A M with
    | nil => rw [hc] at hl; cases hl
    | cons u C =>
      cases C with
      | nil => rfl
      | cons v C =>
        have hu : u ∈ lead A M := by rw [hc]; simp
        have hv : v ∈ lead A M := by rw [hc]; simp
        have e := lead_same g hu hv (h u (mem_lead.mp hu).1 v (mem_lead.mp hv).1)
        have := lead_up (A := A) up
        rw [hc] at this
        have := (List.pairwise_cons.mp this).1 v (by simp)
        omega
theorem of_one (up : M.Pairwise (· < ·)) (g : Gr A) (h : (pcs A M).length = 1) {x y : Nat} (hx : x ∈ M) (hy : y ∈ M) : Reach A M x y := by
  unfold pcs at h
  rw [List.length_map] at h
  obtain ⟨l, hl, hlx⟩ := lead_of (A := A) up g hx
  obtain ⟨k, hk, hky⟩ := lead_of (A := A) up g hy
  have : l = k := by
    cases hc : lead A M with
    | nil => rw [hc] at hl; cases hl
    | cons u C =>
      rw [hc] at h hl hk
      have : C = [] := List.length_eq_zero_iff.mp (by simpa using h)
      subst this
      rw [List.mem_singleton.mp hl, List.mem_singleton.mp hk]
  subst this
  exact (hlx.symm g (mem_lead.mp hl).1).trans hky
/-- a graph or its complement hangs together -/
theorem one_or {n : Nat} (g : Gr A) (hn : 0 < n) : (pcs A (List.range n)).length = 1 ∨ (pcs (cpl A) (List.range n)).length = 1 := by
  have up := List.pairwise_lt_range (n := n)
  have hne : List.range n ≠ [] := fun e => by have := congrArg List.length e; simp at this; omega
  by_cases h : ∀ x ∈ List.range n, ∀ y ∈ List.range n, Reach A (List.range n) x y
  · exact .inl (one_of up g hne h)
  · right
    obtain ⟨a, ha, b, hb, hab⟩ : ∃ a ∈ List.range n, ∃ b ∈ List.range n, ¬ Reach A (List.range n) a b := by
      refine Classical.byContradiction fun hno => h fun x hx y hy => Classical.byContradiction fun hr => hno ⟨x, hx, y, hy, hr⟩
    have far : ∀ x ∈ List.range n, ∀ y ∈ List.range n, ¬ Reach A (List.range n) x y → Reach (cpl A) (List.range n) x y := fun x hx y hy hr => by
      refine Reach.step .refl hy ?_
      have h1 : ¬ x = y := fun e => hr (e ▸ .refl)
      have h2 : A x y = false := by
        cases h : A x y
        · rfl
        · exact absurd (Reach.step .refl hy h) hr
      unfold cpl
      simp [h1, h2]
    refine one_of up g.cpl hne fun x hx y hy => ?_
    by_cases hr : Reach A (List.range n) x y
    · have hz : ∃ z ∈ List.range n, ¬ Reach A (List.range n) x z := by
        by_cases hxa : Reach A (List.range n) x a
        · exact ⟨b, hb, fun h => hab ((hxa.symm g hx).trans h)⟩
        · exact ⟨a, ha, hxa⟩
      obtain ⟨z, hz, hxz⟩ := hz
      exact (far x hx z hz hxz).trans (far z hz y hy fun h => hxz (hr.trans (h.symm g hz)))
    · exact far x hx y hy hr
/-! ### a piece -/
theorem mem_pcs {R : List Nat} : R ∈ pcs A M ↔ ∃ l ∈ lead A M, R = comp A M l := by
  unfold pcs
  rw [List.mem_map]
  exact ⟨fun ⟨l, h1, h2⟩ => ⟨l, h1, h2.symm⟩, fun ⟨l, h1, h2⟩ => ⟨l, h1, h2.symm⟩⟩
theorem pc_sub {R : List Nat} (hR : R ∈ pcs A M) : ∀ x ∈ R, x ∈ M := by
  obtain ⟨l, _, rfl⟩ := mem_pcs.mp hR
  exact fun x hx => (mem_comp.mp hx).1
theorem pc_up {R : List Nat} (up : M.Pairwise (· < ·)) (hR : R ∈ pcs A M) : R.Pairwise (· < ·) := by
  obtain ⟨l, _, rfl⟩ := mem_pcs.mp hR
  exact comp_up up
theorem pc_cl {R : List Nat} (hR : R ∈ pcs A M) {x y : Nat} (hx : x ∈ R) (hy : y ∈ M) (h : A x y = true) : y ∈ R := by
  obtain ⟨l, _, rfl⟩ := mem_pcs.mp hR
  obtain ⟨h1, h2⟩ := mem_comp.mp hx
  exact mem_comp.mpr ⟨hy, h2.step hy h⟩
theorem pc_ne {R : List Nat} (hR : R ∈ pcs A M) : R ≠ [] := by
  obtain ⟨l, hl, rfl⟩ := mem_pcs.mp hR
  intro e
  have : l ∈ comp A M l := mem_comp.mpr ⟨(mem_lead.mp hl).1, .refl⟩
  rw [e] at this
  cases this
theorem pc_one {R : List Nat} (up : M.Pairwise (· < ·)) (g : Gr A) (hR : R ∈ pcs A M) : (pcs A R).length = 1 := by
  refine one_of (pc_up up hR) g (pc_ne hR) fun x hx y hy => ?_
  rw [reach_sub g hx (pc_sub hR) fun a ha b hb hab => pc_cl hR ha hb hab]
  obtain ⟨l, hl, rfl⟩ := mem_pcs.mp hR
  obtain ⟨h1, h2⟩ := mem_comp.mp hx
  obtain ⟨h3, h4⟩ := mem_comp.mp hy
  exact (h2.symm g (mem_lead.mp hl).1).trans h4
/-- two pieces have no point in common -/
theorem pc_apart {R R' : List Nat} (g : Gr A) (hR : R ∈ pcs A M) (hR' : R' ∈ pcs A M) {x : Nat} (hx : x ∈ R) (hx' : x ∈ R') : R = R' := by
  obtain ⟨l, hl, rfl⟩ := mem_pcs.mp hR
  obtain ⟨k, hk, rfl⟩ := mem_pcs.mp hR'
  rw [lead_same g hl hk ((mem_comp.mp hx).2.trans ((mem_comp.mp hx').2.symm g (mem_lead.mp hk).1))]
/-- a piece with a point of another one does not hang together -/
theorem pc_more {R T : List Nat} {o : Nat} (g : Gr A) (hR : R ∈ pcs A M) (ho : o ∈ M) (hno : o ∉ R) (hT : T.Pairwise (· < ·)) (hTm : ∀ x, x ∈ T ↔ x ∈ R ∨ x = o) : (pcs A T).length ≠ 1 := by
  intro h
  obtain ⟨x, hx⟩ : ∃ x, x ∈ R := by
    cases R with
    | nil => exact absurd rfl (pc_ne hR)
    | cons a r => exact ⟨a, by simp⟩
  have hr := of_one hT g h (x := x) (y := o) ((hTm x).mpr (.inl hx)) ((hTm o).mpr (.inr rfl))
  have : ∀ y, Reach A T x y → y ∈ R := fun y hy => by
    induction hy with
    | refl => exact hx
    | step _ hz ha ih =>
      rcases (hTm _).mp hz with h | h
      · exact h
      · exact pc_cl hR ih (h ▸ ho) ha
  exact hno (this o hr)
theorem pcs_flat (up : M.Pairwise (· < ·)) (g : Gr A) : ((pcs A M).map List.length).sum = M.length := by
  rw [← List.length_flatten]
  have nd : (pcs A M).flatten.Nodup := by
    unfold List.Nodup
    rw [List.pairwise_flatten]
    refine ⟨fun R hR => up_nd (pc_up up hR), ?_⟩
    unfold pcs
    rw [List.pairwise_map]
    refine List.Pairwise.imp_of_mem ?_ (lead_up (A := A) up)
    intro a b ha hb hab x hx y hx' e
    subst e
    have := lead_same g ha hb ((mem_comp.mp hx).2.trans ((mem_comp.mp hx').2.symm g (mem_lead.mp hb).1))
    omega
  refine Nat.le_antisymm (nd_le nd fun x hx => ?_) (nd_le (up_nd up) fun x hx => ?_)
  · obtain ⟨R, hR, hx⟩ := List.mem_flatten.mp hx
    exact pc_sub hR x hx
  · obtain ⟨l, hl, hlx⟩ := lead_of (A := A) up g hx
    exact List.mem_flatten.mpr ⟨comp A M l, mem_pcs.mpr ⟨l, hl, rfl⟩, mem_comp.mpr ⟨hx, hlx⟩⟩
end
end VM

/-! K70_B1: words; how many points, which pairs -/
namespace VM
open PySem PySem.Spec PyProof.Rows L2
section
variable {S : Store} {Q : D → Store → Prop} {a b c d : Str} {l : Nat}
def Ly (x : Str) : Prop := (PyData.str x).canLay0 = true
theorem py_str (h : Ly a) {n : Nat} : D.py S (n + 1) (.str a) = some (.str a) := by
  show (if (PyData.str a).canLay0 = true then some (PyData.str a) else none) = _
  exact if_pos h
theorem eqv_str : PyData.eqv (.str a) (.str b) = decide (a = b) := by
  simp only [PyData.eqv]
  rw [Bool.eq_iff_iff]
  simp
theorem has_str : ∀ {bs : List Str}, Ly a → (∀ b ∈ bs, Ly b) → hasM (.str a) (bs.map .str) S = some (decide (a ∈ bs)) := by
  intro bs ha hb
  have e : pyL (D.py S 9) (bs.map D.str) = some (bs.map PyData.str) := by
    induction bs with
    | nil => rfl
    | cons b bs ih =>
      rw [List.map_cons, pyL, py_str (hb b (by simp)), ih fun x hx => hb x (List.mem_cons_of_mem _ hx)]
      rfl
  unfold hasM
  rw [py_str ha, e]
  dsimp only
  congr 1
  rw [Bool.eq_iff_iff, List.any_map, List.any_eq_true]
  simp [eqv_str]
theorem ok_inST {bs : List Str} (ha : Ly a) (hb : ∀ b ∈ bs, Ly b) : Ok (inA (.str a) (.tup (bs.map .str))) S Q ↔ Q (.bl (decide (a ∈ bs))) S := (ok_inOf rfl (has_str ha hb)).1
theorem ok_inSL {bs : List Str} (h : S[l]? = some (.lst (bs.map .str))) (ha : Ly a) (hb : ∀ b ∈ bs, Ly b) : Ok (inA (.str a) (.lst l)) S Q ↔ Q (.bl (decide (a ∈ bs))) S := (ok_inOf (seq_lst h) (has_str ha hb)).1
theorem ok_inS2 (ha : Ly a) (hb : Ly b) (hc : Ly c) : Ok (inA (.str a) (.tup [.str b, .str c])) S Q ↔ Q (.bl (decide (a = b) || decide (a = c))) S := by
  have := ok_inST (S := S) (Q := Q) (bs := [b, c]) ha (fun x hx => by simp at hx; rcases hx with rfl | rfl <;> assumption)
  simpa using this
theorem ok_inS3 (ha : Ly a) (hb : Ly b) (hc : Ly c) (hd : Ly d) : Ok (inA (.str a) (.tup [.str b, .str c, .str d])) S Q ↔ Q (.bl (decide (a = b) || (decide (a = c) || decide (a = d)))) S := by
  have := ok_inST (S := S) (Q := Q) (bs := [b, c, d]) ha (fun x hx => by simp at hx; rcases hx with rfl | rfl | rfl <;> assumption)
  simpa using this
@[simp] theorem ly_ring : Ly "ring" := by unfold Ly; decide +kernel
@[simp] theorem ly_path : Ly "path" := by unfold Ly; decide +kernel
@[simp] theorem ly_complete : Ly "complete" := by unfold Ly; decide +kernel
@[simp] theorem ly_bipartite : Ly "bipartite" := by unfold Ly; decide +kernel
@[simp] theorem ly_wheel : Ly "wheel" := by unfold Ly; decide +kernel
@[simp] theorem ly_grid : Ly "grid" := by unfold Ly; decide +kernel
@[simp] theorem ly_prism : Ly "prism" := by unfold Ly; decide +kernel
@[simp] theorem ly_cube : Ly "cube" := by unfold Ly; decide +kernel
@[simp] theorem ly_moebius : Ly "moebius" := by unfold Ly; decide +kernel
@[simp] theorem ly_star : Ly "star" := by unfold Ly; decide +kernel
@[simp] theorem ly_petersen : Ly "petersen" := by unfold Ly; decide +kernel
@[simp] theorem ly_diamond : Ly "diamond" := by unfold Ly; decide +kernel
@[simp] theorem ly_longclaw : Ly "longclaw" := by unfold Ly; decide +kernel
@[simp] theorem ly_butterfly : Ly "butterfly" := by unfold Ly; decide +kernel
theorem look_at {k : D} {nk : NestedKey} {kvs : KV'} (h : S[l]? = some (.dct kvs)) (hk : D.key k = some nk) (hf : fits kvs nk = true) : lookD S (.dct l) k = some (dget kvs nk) := by
  have e : dictOf S (.dct l) = some kvs := by
    unfold dictOf
    simp only [h]
  unfold lookD
  rw [e, hk]
  dsimp only
  rw [if_pos hf]
theorem ok_ixD {k v : D} {nk : NestedKey} {kvs : KV'} (h : S[l]? = some (.dct kvs)) (hk : D.key k = some nk) (hf : fits kvs nk = true) (hd : dget kvs nk = some v) : Ok (ixA (.dct l) k) S Q ↔ Q v S := by
  refine ok_iff ?_
  show (match lookD S (.dct l) k with
    | some (some d) => some (d, S)
    | _ => none) = _
  rw [look_at h hk hf, hd]
theorem ok_getD {k e : D} {nk : NestedKey} {kvs : KV'} (h : S[l]? = some (.dct kvs)) (hk : D.key k = some nk) (hf : fits kvs nk = true) : Ok (getM (.dct l) [k, e]) S Q ↔ Q ((dget kvs nk).getD e) S := by
  refine ok_iff ?_
  show (lookD S (.dct l) k).map (fun o => (o.getD e, S)) = _
  rw [look_at h hk hf]
  rfl
theorem get_two0 {x y : Ob} : (S ++ [x, y])[S.length]? = some x := by rw [List.getElem?_append_right (Nat.le_refl _), Nat.sub_self]; rfl
theorem get_two1 {x y : Ob} : (S ++ [x, y])[S.length + 1]? = some y := by rw [List.getElem?_append_right (by omega), Nat.add_sub_cancel_left]; rfl
theorem ok_shl {i : Int} {j : Nat} (hi : i.natAbs < 2 ^ 64) (hj : j ≤ 1000000) : Ok (shlM (.int i) (.int (j : Int))) S Q ↔ Q (.int (i * 2 ^ j)) S := by
  refine ok_iff ?_
  show (if 0 ≤ (j : Int) ∧ (j : Int) ≤ 1000000 ∧ i.natAbs < 2 ^ 64 then ret (D.int (i * 2 ^ (j : Int).toNat)) else fail) S = _
  rw [if_pos ⟨by omega, by omega, hi⟩]
  rfl
end
end VM
namespace VMP
open PySem PySem.Spec PyProof.Rows L2 VM
section
variable {S : Store} {Q : D → Store → Prop} {a b : Nat}

@[simp] theorem ok_min2 {i j : Int} : Ok (fMinA [.int i, .int j]) S Q ↔ Q (.int (if j < i then j else i)) S := ok_ret
theorem points_ring (hQ : Q (.int (a : Int)) S) : Ok (f_points_of [.str "ring", .tup [.int (a : Int)]]) S Q := by
  unfold f_points_of b_points_of
  simp (decide := true) [ok_mFun, ok_inS2, ok_inS3]
  exact hQ
theorem points_path (hQ : Q (.int (a : Int)) S) : Ok (f_points_of [.str "path", .tup [.int (a : Int)]]) S Q := by
  unfold f_points_of b_points_of
  simp (decide := true) [ok_mFun, ok_inS2, ok_inS3]
  exact hQ
theorem points_complete (hQ : Q (.int (a : Int)) S) : Ok (f_points_of [.str "complete", .tup [.int (a : Int)]]) S Q := by
  unfold f_points_of b_points_of
  simp (decide := true) [ok_mFun, ok_inS2, ok_inS3]
  exact hQ
theorem points_wheel (hQ : Q (.int ((a + 1 : Nat) : Int)) S) : Ok (f_points_of [.str "wheel", .tup [.int (a : Int)]]) S Q := by
  unfold f_points_of b_points_of
  simp (decide := true) [ok_mFun, ok_inS2, ok_inS3]
  exact hQ
theorem points_star (hQ : Q (.int ((a + 1 : Nat) : Int)) S) : Ok (f_points_of [.str "star", .tup [.int (a : Int)]]) S Q := by
  unfold f_points_of b_points_of
  simp (decide := true) [ok_mFun, ok_inS2, ok_inS3]
  exact hQ
theorem points_prism (hQ : Q (.int ((2 * a : Nat) : Int)) S) : Ok (f_points_of [.str "prism", .tup [.int (a : Int)]]) S Q := by
  unfold f_points_of b_points_of
  simp (decide := true) [ok_mFun, ok_inS2, ok_inS3]
  simpa using hQ
theorem points_moebius (hQ : Q (.int ((2 * a : Nat) : Int)) S) : Ok (f_points_of [.str "moebius", .tup [.int (a : Int)]]) S Q := by
  unfold f_points_of b_points_of
  simp (decide := true) [ok_mFun, ok_inS2, ok_inS3]
  simpa using hQ
theorem points_bipartite (hQ : Q (.int ((a + b : Nat) : Int)) S) : Ok (f_points_of [.str "bipartite", .tup [.int (a : Int), .int (b : Int)]]) S Q := by
  unfold f_points_of b_points_of
  simp (decide := true) [ok_mFun, ok_inS2, ok_inS3]
  simpa using hQ
theorem points_grid (ha : a ≤ 100) (hQ : Q (.int ((a * b : Nat) : Int)) S) : Ok (f_points_of [.str "grid", .tup [.int (a : Int), .int (b : Int)]]) S Q := by
  unfold f_points_of b_points_of
  simp (decide := true) [ok_mFun, ok_inS2, ok_inS3]
  refine ⟨by omega, by simpa using hQ⟩
theorem points_cube (ha : a ≤ 9) (hQ : Q (.int ((2 ^ a : Nat) : Int)) S) : Ok (f_points_of [.str "cube", .tup [.int (a : Int)]]) S Q := by
  unfold f_points_of b_points_of
  simp (decide := true) [ok_mFun, ok_inS2, ok_inS3]
  have e : (if (9 : Int) < (a : Int) then (9 : Int) else (a : Int)) = ((a : Nat) : Int) := if_neg (by omega)
  rw [e, ok_shl (by decide) (by omega)]
  simpa using hQ
theorem points_petersen (hQ : ∀ S', Keep [] S S' → Q (.int (10 : Int)) S') : Ok (f_points_of [.str "petersen", .tup []]) S Q := by
  unfold f_points_of b_points_of
  simp (decide := true) [ok_mFun, ok_inS2, ok_inS3, ok_putM]
  refine ⟨_, rfl, rfl, _, rfl, by decide +kernel, by decide +kernel, _, rfl, by decide +kernel, by decide +kernel, _, rfl, by decide +kernel, by decide +kernel, ?_⟩
  rw [ok_ixD (v := .int 10) get_last rfl (by decide +kernel) (by kernel_rfl)]
  exact hQ _ keep_app
end
/-! ### the pairs -/
def ringL (f n : Nat) : List (Nat × Nat) := (List.range n).map fun i => (f + i, f + (i + 1) % n)
def pathL (n : Nat) : List (Nat × Nat) := (List.range (n - 1)).map fun i => (i, i + 1)
def sidedL (a b : Nat) : List (Nat × Nat) := (List.range a).flatMap fun i => (List.range b).map fun j => (i, a + j)
def sidedL' (k a b : Nat) : List (Nat × Nat) := (List.range k).flatMap fun i => (List.range b).map fun j => (i, a + j)
theorem sidedL_len {k a b : Nat} : (sidedL' k a b).length = k * b := by
  unfold sidedL'
  rw [List.length_flatMap]
  simp [List.map_const', List.sum_replicate_nat]
def gridL (r w : Nat) : List (Nat × Nat) := ((List.range r).flatMap fun i => (List.range (w - 1)).map fun j => (w * i + j, w * i + j + 1)) ++ (List.range (r - 1)).flatMap fun i => (List.range w).map fun j => (w * i + j, w * i + w + j)
def cubeL (h : Nat) : List (Nat × Nat) := (List.range (2 ^ h)).flatMap fun x => ((List.range h).filter fun k => decide (x / 2 ^ k % 2 = 0)).map fun k => (x, x + 2 ^ k)
section
variable {S : Store} {Q : D → Store → Prop} {a b : Nat}
theorem ring_ok {f n : Nat} (hn : n ≤ 1000) (hQ : Q (.lst S.length) (S ++ [.lst (VM.prD (ringL f n))])) : Ok (f_ring_pairs [.int (f : Int), .int (n : Int)]) S Q := by
  have hlim : lim = 1000000 := rfl
  unfold f_ring_pairs b_ring_pairs
  simp [ok_mFun]
  refine ok_compPick (L := List.range n) (f := fun x : Nat => D.int (x : Int)) (p := fun _ => true) (h := fun i => eD (f + i, f + (i + 1) % n)) (lv := []) (VM.prD (ringL f n)) ?_ live_nil ?_ ?_ ?_ hQ
  · simp [rowD_nat]
    exact ⟨by omega, rfl⟩
  · intro x hx N hN
    have hx' := List.mem_range.mp hx
    have h0 : ¬ (n : Int) = 0 := by omega
    simp [hlim, h0]
    refine ⟨by omega, ?_⟩
    simpa [eD] using hN
  · rw [List.filter_eq_self.mpr fun _ _ => rfl]
    unfold VM.prD ringL
    rw [List.map_map]
    rfl
  · rw [prD_length]
    unfold ringL
    rw [List.length_map, List.length_range]
    omega
theorem path_ok {n : Nat} (hn : n ≤ 1000) (hQ : Q (.lst S.length) (S ++ [.lst (VM.prD (pathL n))])) : Ok (f_path_pairs [.int (n : Int)]) S Q := by
  have hlim : lim = 1000000 := rfl
  unfold f_path_pairs b_path_pairs
  simp [ok_mFun]
  refine ok_compPick (L := List.range (n - 1)) (f := fun x : Nat => D.int (x : Int)) (p := fun _ => true) (h := fun i => eD (i, i + 1)) (lv := []) (VM.prD (pathL n)) ?_ live_nil ?_ ?_ ?_ hQ
  · simp [rowD_nat]
    have e : ((n : Int) - 1).toNat = n - 1 := by omega
    refine ⟨by omega, ?_⟩
    rw [← e]
    rfl
  · intro x hx N hN
    simp [hlim]
    simpa [eD] using hN
  · rw [List.filter_eq_self.mpr fun _ _ => rfl]
    unfold VM.prD pathL
    rw [List.map_map]
    rfl
  · rw [prD_length]
    unfold pathL
    rw [List.length_map, List.length_range]
    omega
theorem all_ok {n : Nat} (hn : n ≤ 100) (hQ : Q (.lst S.length) (S ++ [.lst (VM.prD (foundL n))])) : Ok (f_all_pairs [.int (n : Int)]) S Q := by
  have hlim : lim = 1000000 := rfl
  unfold f_all_pairs b_all_pairs
  simp [ok_mFun, ok_mComp2]
  refine ⟨by omega, ?_⟩
  refine ok_comp2 (fun pre acc S3 => S3 = S ∧ acc = VM.prD (foundL pre.length)) ⟨rfl, rfl⟩ (fun _ _ _ _ => live_nil) ?_ ?_
  · rintro pre d post acc S3 e ⟨rfl, rfl⟩
    obtain ⟨hi, rfl⟩ := rowD_split e
    simp
    refine ⟨by omega, ?_⟩
    rw [rowD_nat]
    refine ok_pick (L := List.range pre.length) (f := fun x : Nat => D.int (x : Int)) (p := fun _ => true) (h := fun x => eD (x, pre.length)) live_nil ?_ ?_
    · intro x hx M hM
      simp [hlim]
      simpa [eD] using hM
    · rw [List.filter_eq_self.mpr fun _ _ => rfl, foundL_succ, prD_append]
      unfold VM.prD
      rw [List.map_map]
      exact ⟨rfl, rfl⟩
  · rintro acc S3 ⟨rfl, rfl⟩
    rw [rowD_len]
    have lf := foundL_len n
    have : n * n ≤ 100 * 100 := Nat.mul_le_mul hn hn
    simp [hlim]
    exact ⟨by omega, hQ⟩
theorem flat_succ {f : Nat → List (Nat × Nat)} {k : Nat} : (List.range (k + 1)).flatMap f = (List.range k).flatMap f ++ f k := by
  rw [List.range_succ, List.flatMap_append]
  simp
theorem sided_ok (ha : a ≤ 100) (hb : b ≤ 100) (hQ : Q (.lst S.length) (S ++ [.lst (VM.prD (sidedL a b))])) : Ok (f_sided_pairs [.int (a : Int), .int (b : Int)]) S Q := by
  have hlim : lim = 1000000 := rfl
  unfold f_sided_pairs b_sided_pairs
  simp [ok_mFun, ok_mComp2]
  refine ⟨by omega, ?_⟩
  refine ok_comp2 (fun pre acc S3 => S3 = S ∧ acc = VM.prD (sidedL' pre.length a b)) ⟨rfl, rfl⟩ (fun _ _ _ _ => live_nil) ?_ ?_
  · rintro pre d post acc S3 e ⟨rfl, rfl⟩
    obtain ⟨hi, rfl⟩ := rowD_split e
    simp
    refine ⟨by omega, ?_⟩
    rw [rowD_nat]
    refine ok_pick (L := List.range b) (f := fun x : Nat => D.int (x : Int)) (p := fun _ => true) (h := fun j => eD (pre.length, a + j)) live_nil ?_ ?_
    · intro x hx M hM
      simp [hlim]
      simpa [eD] using hM
    · rw [List.filter_eq_self.mpr fun _ _ => rfl]
      unfold sidedL'
      rw [flat_succ, prD_append]
      unfold VM.prD
      rw [List.map_map]
      exact ⟨rfl, rfl⟩
  · rintro acc S3 ⟨rfl, rfl⟩
    rw [rowD_len]
    have lf := sidedL_len (k := a) (a := a) (b := b)
    have : a * b ≤ 100 * 100 := Nat.mul_le_mul ha hb
    simp [hlim]
    exact ⟨by omega, hQ⟩
def gridA (k w : Nat) : List (Nat × Nat) := (List.range k).flatMap fun i => (List.range (w - 1)).map fun j => (w * i + j, w * i + j + 1)
def gridB (k w : Nat) : List (Nat × Nat) := (List.range k).flatMap fun i => (List.range w).map fun j => (w * i + j, w * i + w + j)
theorem gridA_len {k w : Nat} : (gridA k w).length = k * (w - 1) := by
  unfold gridA
  rw [List.length_flatMap]
  simp [List.map_const', List.sum_replicate_nat]
theorem gridB_len {k w : Nat} : (gridB k w).length = k * w := by
  unfold gridB
  rw [List.length_flatMap]
  simp [List.map_const', List.sum_replicate_nat]
theorem grid_ok {r w : Nat} (hr : r ≤ 100) (hw : w ≤ 100) (hQ : ∀ l S', S'[l]? = some (.lst (VM.prD (gridL r w))) → Keep [] S S' → Q (.lst l) S') : Ok (f_grid_pairs [.int (r : Int), .int (w : Int)]) S Q := by
  have hlim : lim = 1000000 := rfl
  have ew : ((w : Int) - 1).toNat = w - 1 := by omega
  have er : ((r : Int) - 1).toNat = r - 1 := by omega
  have m1 : r * w ≤ 100 * 100 := Nat.mul_le_mul hr hw
  have m2 : r * (w - 1) ≤ r * w := Nat.mul_le_mul_left _ (by omega)
  have m3 : (r - 1) * w ≤ r * w := Nat.mul_le_mul_right _ (by omega)
  unfold f_grid_pairs b_grid_pairs
  simp [ok_mFun, ok_mComp2]
  refine ⟨by omega, ?_⟩
  refine ok_comp2 (fun pre acc S3 => S3 = S ∧ acc = VM.prD (gridA pre.length w)) ⟨rfl, rfl⟩ (fun _ _ _ _ => live_nil) ?_ ?_
  · rintro pre d post acc S3 e ⟨rfl, rfl⟩
    obtain ⟨hi, rfl⟩ := rowD_split e
    simp [rowD_nat]
    refine ⟨by omega, ?_⟩
    refine ok_pick (L := List.range (w - 1)) (f := fun x : Nat => D.int (x : Int)) (p := fun _ => true) (h := fun j => eD (w * pre.length + j, w * pre.length + j + 1)) live_nil ?_ ?_
    · intro x hx M hM
      simp [hlim]
      refine ⟨by omega, ?_⟩
      simpa [eD] using hM
    · rw [List.filter_eq_self.mpr fun _ _ => rfl]
      unfold gridA
      rw [flat_succ, prD_append]
      unfold VM.prD
      rw [List.map_map]
      exact ⟨rfl, rfl⟩
  · rintro acc S3 ⟨rfl, rfl⟩
    rw [rowD_len]
    have lf := gridA_len (k := r) (w := w)
    simp [hlim]
    refine ⟨by omega, by omega, ?_⟩
    refine ok_comp2 (fun pre acc S4 => S4 = S3 ++ [.lst (VM.prD (gridA r w))] ∧ acc = VM.prD (gridB pre.length w)) ⟨rfl, rfl⟩ (fun _ _ _ _ => live_nil) ?_ ?_
    · rintro pre d post acc S4 e ⟨rfl, rfl⟩
      obtain ⟨hi, rfl⟩ := rowD_split e
      simp [rowD_nat]
      refine ⟨by omega, ?_⟩
      refine ok_pick (L := List.range w) (f := fun x : Nat => D.int (x : Int)) (p := fun _ => true) (h := fun j => eD (w * pre.length + j, w * pre.length + w + j)) live_nil ?_ ?_
      · intro x hx M hM
        simp [hlim]
        refine ⟨by omega, ?_⟩
        simpa [eD] using hM
      · rw [List.filter_eq_self.mpr fun _ _ => rfl]
        unfold gridB
        rw [flat_succ, prD_append]
        unfold VM.prD
        rw [List.map_map]
        exact ⟨rfl, rfl⟩
    · rintro acc S4 ⟨rfl, rfl⟩
      rw [rowD_len]
      have lf2 := gridB_len (k := r - 1) (w := w)
      simp [hlim]
      refine ⟨by omega, ?_⟩
      rw [ok_addL get_two0 get_two1, ← prD_append]
      exact ⟨by rw [prD_length, List.length_append, hlim]; omega, hQ _ _ get_last ((keep_app).trans keep_app)⟩
def cubeA (n h : Nat) : List (Nat × Nat) := (List.range n).flatMap fun x => ((List.range h).filter fun k => decide (x / 2 ^ k % 2 = 0)).map fun k => (x, x + 2 ^ k)
theorem cubeA_len {n h : Nat} : (cubeA n h).length ≤ n * h := by
  induction n with
  | zero => simp [cubeA]
  | succ n ih =>
    have e : cubeA (n + 1) h = cubeA n h ++ ((List.range h).filter fun k => decide (n / 2 ^ k % 2 = 0)).map fun k => (n, n + 2 ^ k) := flat_succ
    have := List.length_filter_le (fun k => decide (n / 2 ^ k % 2 = 0)) (List.range h)
    rw [List.length_range] at this
    rw [e, List.length_append, List.length_map, Nat.succ_mul]
    omega
theorem cube_ok {h : Nat} (hh : h ≤ 5) (hQ : ∀ l S', S'[l]? = some (.lst (VM.prD (cubeL h))) → Keep [] S S' → Q (.lst l) S') : Ok (f_cube_pairs [.int (h : Int)]) S Q := by
  have hlim : lim = 1000000 := rfl
  unfold f_cube_pairs b_cube_pairs
  simp [ok_mFun]
  refine ok_compPick (L := List.range h) (f := fun x : Nat => D.int (x : Int)) (p := fun _ => true) (h := fun k : Nat => D.int ((2 ^ k : Nat) : Int)) (lv := []) ((List.range h).map fun k : Nat => D.int ((2 ^ k : Nat) : Int)) ?_ live_nil ?_ ?_ ?_ ?_
  · simp [rowD_nat]
    exact ⟨by omega, rfl⟩
  · intro x hx N hN
    have hx' := List.mem_range.mp hx
    simp [hlim]
    rw [ok_shl (by decide) (by omega)]
    simpa using hN
  · rw [List.filter_eq_self.mpr fun _ _ => rfl]
  · simp [hlim]; omega
  · simp [ok_mComp2]
    rw [ok_shl (by decide) (by omega)]
    have hp : (2 : Nat) ^ h ≤ 2 ^ 5 := Nat.pow_le_pow_right (by decide) hh
    have ei : (1 : Int) * 2 ^ h = ((2 ^ h : Nat) : Int) := by simp
    rw [ei]
    generalize hn : 2 ^ h = n at hp
    have hlst : (S ++ [Ob.lst (List.map (fun k => D.int (2 ^ k)) (List.range h))])[S.length]? = some (Ob.lst (List.map (fun k => D.int (2 ^ k)) (List.range h))) := get_last
    have k1 : Keep [] S (S ++ [Ob.lst (List.map (fun k => D.int (2 ^ k)) (List.range h))]) := keep_app
    generalize S ++ [Ob.lst (List.map (fun k => D.int (2 ^ k)) (List.range h))] = S1 at hlst k1 ⊢
    simp
    refine ⟨by omega, ?_⟩
    refine ok_comp2 (fun pre acc S4 => S4 = S1 ∧ acc = VM.prD (cubeA pre.length h)) ⟨rfl, rfl⟩ (fun _ _ _ _ => live_nil) ?_ ?_
    · rintro pre d post acc S4 e ⟨rfl, rfl⟩
      obtain ⟨hi, rfl⟩ := rowD_split e
      simp [hlst]
      refine ⟨_, _, ⟨rfl, rfl⟩, ?_⟩
      refine ok_pick (L := List.range h) (f := fun k : Nat => D.int (2 ^ k)) (p := fun k => decide (pre.length / 2 ^ k % 2 = 0)) (h := fun k => eD (pre.length, pre.length + 2 ^ k)) (live_one.mpr hlst) ?_ ?_
      · intro x hx M hM
        have h0 : ¬ (2 : Int) ^ x = 0 := by
          have : (0 : Int) < 2 ^ x := Int.pow_pos (by decide)
          omega
        have hx' := List.mem_range.mp hx
        have hp2 : (2 : Nat) ^ x ≤ 2 ^ 5 := Nat.pow_le_pow_right (by decide) (by omega)
        have hp1 : (0 : Nat) < 2 ^ x := Nat.pow_pos (by decide)
        have ec : ((2 : Int) ^ x) = ((2 ^ x : Nat) : Int) := by simp
        simp [hlim, h0]
        rw [ec]
        generalize hy : 2 ^ x = y at hp1 hp2 hM ⊢
        refine ⟨by omega, ?_⟩
        by_cases c : pre.length / y % 2 = 0
        · refine .inr ⟨by omega, ?_⟩
          simpa [c, eD] using hM
        · refine .inl ⟨by omega, ?_⟩
          simpa [c, eD] using hM
      · unfold cubeA
        rw [flat_succ, prD_append]
        unfold VM.prD
        rw [List.map_map]
        exact ⟨rfl, rfl⟩
    · rintro acc S4 ⟨rfl, rfl⟩
      rw [rowD_len]
      have lc := cubeA_len (n := n) (h := h)
      have hm : n * h ≤ 32 * 5 := Nat.mul_le_mul hp hh
      refine ⟨by rw [prD_length, hlim]; omega, hQ _ _ ?_ (k1.trans keep_app)⟩
      rw [get_last, ← hn]
      rfl
end
end VMP

/-! K70_B2: the pairs of a family; families -/
namespace VMP
open PySem PySem.Spec PyProof.Rows L2 VM
/-- a row of pairs as a graph -/
def adjL (L : List (Nat × Nat)) : Adj := fun x y => decide ((x, y) ∈ L) || decide ((y, x) ∈ L)
def okL (n : Nat) (L : List (Nat × Nat)) : Bool := L.all fun p => decide (p.1 ≠ p.2) && (decide (p.1 < n) && decide (p.2 < n))
theorem okL_gr {n : Nat} {L : List (Nat × Nat)} (h : okL n L = true) : Gr (adjL L) := by
  refine ⟨fun x => ?_, fun x y => Bool.or_comm _ _⟩
  have : (x, x) ∉ L := fun hm => by
    have := List.all_eq_true.mp h _ hm
    simp at this
  simp [adjL, this]
theorem okL_sp {n : Nat} {L : List (Nat × Nat)} (h : okL n L = true) (x y : Nat) : (∃ p, p ∈ L ∧ spP p = (x, y)) ↔ (x < y ∧ y < n) ∧ adjL L x y = true := by
  constructor
  · rintro ⟨⟨a, b⟩, hp, e⟩
    have h1 := List.all_eq_true.mp h _ hp
    simp at h1
    unfold spP at e
    dsimp only at e
    split at e
    · simp only [Prod.mk.injEq] at e
      obtain ⟨rfl, rfl⟩ := e
      exact ⟨⟨by assumption, by omega⟩, by simp [adjL, hp]⟩
    · simp only [Prod.mk.injEq] at e
      obtain ⟨rfl, rfl⟩ := e
      exact ⟨⟨by omega, by omega⟩, by simp [adjL, hp]⟩
  · rintro ⟨⟨h1, h2⟩, h3⟩
    unfold adjL at h3
    rw [Bool.or_eq_true, decide_eq_true_eq, decide_eq_true_eq] at h3
    rcases h3 with h3 | h3
    · exact ⟨(x, y), h3, by unfold spP; rw [if_pos h1]⟩
    · exact ⟨(y, x), h3, by unfold spP; rw [if_neg (by dsimp only; omega)]⟩
/-- the families: a word, its numbers -/
inductive Fam where
  | ring (n : Nat) | path (n : Nat) | complete (n : Nat) | bipartite (a b : Nat) | wheel (n : Nat) | star (n : Nat) | grid (r w : Nat) | prism (n : Nat) | moebius (n : Nat) | cube (h : Nat) | petersen
def Fam.word : Fam → Str
  | .ring _ => "ring" | .path _ => "path" | .complete _ => "complete" | .bipartite _ _ => "bipartite" | .wheel _ => "wheel" | .star _ => "star" | .grid _ _ => "grid" | .prism _ => "prism" | .moebius _ => "moebius" | .cube _ => "cube" | .petersen => "petersen"
def Fam.nums : Fam → List Nat
  | .ring n => [n] | .path n => [n] | .complete n => [n] | .bipartite a b => [a, b] | .wheel n => [n] | .star n => [n] | .grid a b => [a, b] | .prism n => [n] | .moebius n => [n] | .cube n => [n] | .petersen => []
def Fam.pts : Fam → Nat
  | .ring n => n | .path n => n | .complete n => n | .bipartite a b => a + b | .wheel n => n + 1 | .star n => n + 1 | .grid a b => a * b | .prism n => 2 * n | .moebius n => 2 * n | .cube n => 2 ^ n | .petersen => 10
def Fam.prs : Fam → List (Nat × Nat)
  | .ring n => ringL 0 n
  | .path n => pathL n
  | .complete n => foundL n
  | .bipartite a b => sidedL a b
  | .wheel n => (List.range n).map (fun i => (i, n)) ++ ringL 0 n
  | .star n => (List.range n).map fun i => (i, n)
  | .grid r w => gridL r w
  | .prism n => (ringL 0 n ++ ringL n n) ++ (List.range n).map fun i => (i, i + n)
  | .moebius n => ringL 0 (2 * n) ++ (List.range n).map fun i => (i, i + n)
  | .cube h => cubeL h
  | .petersen => (ringL 0 5 ++ (List.range 5).map fun i => (5 + i, 5 + (i + 2) % 5)) ++ (List.range 5).map fun i => (i, 5 + i)
section
variable {S : Store} {Q : D → Store → Prop}
theorem add_pr {l m : Nat} {L M : List (Nat × Nat)} (h : S[l]? = some (.lst (VM.prD L))) (h2 : S[m]? = some (.lst (VM.prD M))) (hz : L.length + M.length ≤ 100000) (hQ : Q (.lst S.length) (S ++ [.lst (VM.prD (L ++ M))])) : Ok (addM (.lst l) (.lst m)) S Q := by
  have hlim : lim = 1000000 := rfl
  rw [ok_addL h h2, ← prD_append]
  exact ⟨by rw [prD_length, List.length_append, hlim]; omega, hQ⟩
theorem ringL_len {f n : Nat} : (ringL f n).length = n := by unfold ringL; rw [List.length_map, List.length_range]
theorem spokes_pick {n : Nat} {k : Nat} {vs : List Nat} {mi : IM} {g : GM} {t : TM} {me : EM} {ρ : VM.Env} {h : Nat → Nat × Nat} (hk : n ≤ 1000) (hi : Ok (mi ρ) S fun q S' => q = ((List.range n).map (fun x : Nat => D.int (x : Int)), []) ∧ S' = S)
    (hs : ∀ x, x < n → ∀ N : Option D → Store → Prop, N (some (eD (h x))) S → Ok (g (.int (x : Int)) (wipeE vs ρ)) S fun ρ1 S1 => Ok (t ρ1) S1 fun b S2 => if b = true then Ok (me ρ1) S2 fun y S3 => N (some y) S3 else N none S2)
    (he : Q (.lst S.length) (S ++ [.lst (VM.prD ((List.range n).map h))])) : Ok (mComp vs mi g t me ρ) S Q := by
  have hlim : lim = 1000000 := rfl
  refine ok_compPick (L := List.range n) (f := fun x : Nat => D.int (x : Int)) (p := fun _ => true) (h := fun i => eD (h i)) (lv := []) (VM.prD ((List.range n).map h)) hi live_nil ?_ ?_ ?_ he
  · intro x hx N hN
    exact hs x (List.mem_range.mp hx) N (by simpa using hN)
  · rw [List.filter_eq_self.mpr fun _ _ => rfl]
    unfold VM.prD
    rw [List.map_map]
    rfl
  · rw [prD_length, List.length_map, List.length_range]
    omega
theorem pairs_ring {n : Nat} (hn : n ≤ 1000) (hQ : ∀ l S', S'[l]? = some (.lst (VM.prD (Fam.prs (.ring n)))) → Keep [] S S' → Q (.lst l) S') : Ok (f_pairs_of [.str "ring", .tup [.int (n : Int)]]) S Q := by
  unfold f_pairs_of b_pairs_of
  simp (decide := true) [ok_mFun, ok_inS2]
  refine points_ring ?_
  try simp (decide := true)
  exact ring_ok (f := 0) hn (hQ _ _ get_last keep_app)
theorem pairs_path {n : Nat} (hn : n ≤ 1000) (hQ : ∀ l S', S'[l]? = some (.lst (VM.prD (Fam.prs (.path n)))) → Keep [] S S' → Q (.lst l) S') : Ok (f_pairs_of [.str "path", .tup [.int (n : Int)]]) S Q := by
  unfold f_pairs_of b_pairs_of
  simp (decide := true) [ok_mFun, ok_inS2]
  refine points_path ?_
  try simp (decide := true)
  exact path_ok hn (hQ _ _ get_last keep_app)
theorem pairs_complete {n : Nat} (hn : n ≤ 100) (hQ : ∀ l S', S'[l]? = some (.lst (VM.prD (Fam.prs (.complete n)))) → Keep [] S S' → Q (.lst l) S') : Ok (f_pairs_of [.str "complete", .tup [.int (n : Int)]]) S Q := by
  unfold f_pairs_of b_pairs_of
  simp (decide := true) [ok_mFun, ok_inS2]
  refine points_complete ?_
  try simp (decide := true)
  exact all_ok hn (hQ _ _ get_last keep_app)
theorem pairs_bipartite {a b : Nat} (ha : a ≤ 100) (hb : b ≤ 100) (hQ : ∀ l S', S'[l]? = some (.lst (VM.prD (Fam.prs (.bipartite a b)))) → Keep [] S S' → Q (.lst l) S') : Ok (f_pairs_of [.str "bipartite", .tup [.int (a : Int), .int (b : Int)]]) S Q := by
  unfold f_pairs_of b_pairs_of
  simp (decide := true) [ok_mFun, ok_inS2]
  refine points_bipartite ?_
  try simp (decide := true)
  exact sided_ok ha hb (hQ _ _ get_last keep_app)
theorem pairs_wheel {n : Nat} (hn : n ≤ 100) (hQ : ∀ l S', S'[l]? = some (.lst (VM.prD (Fam.prs (.wheel n)))) → Keep [] S S' → Q (.lst l) S') : Ok (f_pairs_of [.str "wheel", .tup [.int (n : Int)]]) S Q := by
  have hlim : lim = 1000000 := rfl
  unfold f_pairs_of b_pairs_of
  simp (decide := true) [ok_mFun, ok_inS2]
  refine points_wheel ?_
  simp (decide := true) [ok_inS2]
  refine spokes_pick (n := n) (k := 0) (h := fun i => (i, n)) (by omega) ?_ ?_ ?_
  · simp [rowD_nat]
    exact ⟨by omega, rfl⟩
  · intro x hx N hN
    simp [hlim]
    simpa [eD] using hN
  · try simp (decide := true) [ok_inS2]
    refine ring_ok (f := 0) (by omega) ?_
    refine add_pr (get_app get_last) get_last (by simp [ringL_len]; omega) ?_
    exact hQ _ _ get_last ((keep_app.trans keep_app).trans keep_app)
theorem pairs_star {n : Nat} (hn : n ≤ 100) (hQ : ∀ l S', S'[l]? = some (.lst (VM.prD (Fam.prs (.star n)))) → Keep [] S S' → Q (.lst l) S') : Ok (f_pairs_of [.str "star", .tup [.int (n : Int)]]) S Q := by
  have hlim : lim = 1000000 := rfl
  unfold f_pairs_of b_pairs_of
  simp (decide := true) [ok_mFun, ok_inS2]
  refine points_star ?_
  simp (decide := true) [ok_inS2]
  refine spokes_pick (n := n) (k := 0) (h := fun i => (i, n)) (by omega) ?_ ?_ ?_
  · simp [rowD_nat]
    exact ⟨by omega, rfl⟩
  · intro x hx N hN
    simp [hlim]
    simpa [eD] using hN
  · simp (decide := true) [ok_inS2]
    refine add_pr (M := []) get_two0 get_two1 (by simp; omega) ?_
    rw [List.append_nil]
    exact hQ _ _ get_last (keep_app.trans keep_app)
theorem pairs_grid {r w : Nat} (hr : r ≤ 100) (hw : w ≤ 100) (hQ : ∀ l S', S'[l]? = some (.lst (VM.prD (Fam.prs (.grid r w)))) → Keep [] S S' → Q (.lst l) S') : Ok (f_pairs_of [.str "grid", .tup [.int (r : Int), .int (w : Int)]]) S Q := by
  have hlim : lim = 1000000 := rfl
  unfold f_pairs_of b_pairs_of
  simp (decide := true) [ok_mFun, ok_inS2]
  refine points_grid hr ?_
  try simp (decide := true)
  exact grid_ok hr hw hQ
theorem pairs_prism {n : Nat} (hn : n ≤ 100) (hQ : ∀ l S', S'[l]? = some (.lst (VM.prD (Fam.prs (.prism n)))) → Keep [] S S' → Q (.lst l) S') : Ok (f_pairs_of [.str "prism", .tup [.int (n : Int)]]) S Q := by
  have hlim : lim = 1000000 := rfl
  unfold f_pairs_of b_pairs_of
  simp (decide := true) [ok_mFun, ok_inS2]
  refine points_prism ?_
  try simp (decide := true)
  refine ring_ok (f := 0) (by omega) ?_
  refine ring_ok (by omega) ?_
  refine add_pr (get_app get_last) get_last (by simp [ringL_len]; omega) ?_
  refine spokes_pick (n := n) (k := 0) (h := fun i => (i, i + n)) (by omega) ?_ ?_ ?_
  · simp [rowD_nat]
    exact ⟨by omega, rfl⟩
  · intro x hx N hN
    simp [hlim]
    simpa [eD] using hN
  · refine add_pr (get_app get_last) get_last (by simp [ringL_len]; omega) ?_
    exact hQ _ _ get_last ((((keep_app.trans keep_app).trans keep_app).trans keep_app).trans keep_app)
theorem pairs_moebius {n : Nat} (hn : n ≤ 100) (hQ : ∀ l S', S'[l]? = some (.lst (VM.prD (Fam.prs (.moebius n)))) → Keep [] S S' → Q (.lst l) S') : Ok (f_pairs_of [.str "moebius", .tup [.int (n : Int)]]) S Q := by
  have hlim : lim = 1000000 := rfl
  unfold f_pairs_of b_pairs_of
  simp (decide := true) [ok_mFun, ok_inS2]
  refine points_moebius ?_
  try simp (decide := true)
  have e2 : (2 * (n : Int)) = ((2 * n : Nat) : Int) := by simp
  rw [e2]
  refine ring_ok (f := 0) (n := 2 * n) (by omega) ?_
  refine spokes_pick (n := n) (k := 0) (h := fun i => (i, i + n)) (by omega) ?_ ?_ ?_
  · simp [rowD_nat]
    exact ⟨by omega, rfl⟩
  · intro x hx N hN
    simp [hlim]
    simpa [eD] using hN
  · refine add_pr (get_app get_last) get_last (by simp [ringL_len]; omega) ?_
    exact hQ _ _ get_last ((keep_app.trans keep_app).trans keep_app)
theorem pairs_cube {h : Nat} (hh : h ≤ 5) (hQ : ∀ l S', S'[l]? = some (.lst (VM.prD (Fam.prs (.cube h)))) → Keep [] S S' → Q (.lst l) S') : Ok (f_pairs_of [.str "cube", .tup [.int (h : Int)]]) S Q := by
  have hlim : lim = 1000000 := rfl
  unfold f_pairs_of b_pairs_of
  simp (decide := true) [ok_mFun, ok_inS2]
  refine points_cube (by omega) ?_
  try simp (decide := true)
  exact cube_ok hh hQ
theorem pairs_petersen (hQ : ∀ l S', S'[l]? = some (.lst (VM.prD (Fam.prs .petersen))) → Keep [] S S' → Q (.lst l) S') : Ok (f_pairs_of [.str "petersen", .tup []]) S Q := by
  have hlim : lim = 1000000 := rfl
  unfold f_pairs_of b_pairs_of
  simp (decide := true) [ok_mFun, ok_inS2]
  refine points_petersen fun S1 k1 => ?_
  try simp (decide := true)
  unfold f_named_pairs b_named_pairs
  simp (decide := true) [ok_mFun]
  refine spokes_pick (n := 5) (k := 0) (h := fun i => (5 + i, 5 + (i + 2) % 5)) (by omega) ?_ ?_ ?_
  · simp
    rfl
  · intro x hx N hN
    simp [hlim]
    simpa [eD] using hN
  · refine ring_ok (f := 0) (n := 5) (by omega) ?_
    refine add_pr get_last (get_app get_last) (by simp [ringL_len]) ?_
    refine spokes_pick (n := 5) (k := 0) (h := fun i => (i, 5 + i)) (by omega) ?_ ?_ ?_
    · simp
      rfl
    · intro x hx N hN
      simp [hlim]
      simpa [eD] using hN
    · refine add_pr (get_app get_last) get_last (by simp [ringL_len]) ?_
      exact hQ _ _ get_last (((((k1.trans keep_app).trans keep_app).trans keep_app).trans keep_app).trans keep_app)
/-- numbers within bounds -/
def Fam.fine : Fam → Prop
  | .ring n => 3 ≤ n ∧ n ≤ 20 | .path n => n ≤ 20 | .complete n => n ≤ 20 | .bipartite a b => a ≤ 10 ∧ b ≤ 10 | .wheel n => 3 ≤ n ∧ n ≤ 19 | .star n => n ≤ 19 | .grid r w => 1 ≤ r ∧ r ≤ 4 ∧ 1 ≤ w ∧ w ≤ 5
  | .prism n => 3 ≤ n ∧ n ≤ 10 | .moebius n => 2 ≤ n ∧ n ≤ 10 | .cube h => h ≤ 4 | .petersen => True
theorem Fam.pts_le {F : Fam} (h : F.fine) : F.pts ≤ 20 := by
  cases F with
  | grid r w =>
    obtain ⟨h1, h2, h3, h4⟩ := h
    exact Nat.mul_le_mul h2 h4
  | cube n =>
    have h' : n ≤ 4 := h
    have : (2 : Nat) ^ n ≤ 2 ^ 4 := Nat.pow_le_pow_right (by decide) h'
    show 2 ^ n ≤ 20
    omega
  | _ => simp only [Fam.fine, Fam.pts] at *; omega
theorem points_fam (F : Fam) (h : F.fine) (hQ : ∀ S', Keep [] S S' → Q (.int (F.pts : Int)) S') : Ok (f_points_of [.str F.word, .tup (natD F.nums)]) S Q := by
  have q := hQ S Keep.refl
  cases F with
  | ring n => exact points_ring q
  | path n => exact points_path q
  | complete n => exact points_complete q
  | bipartite a b => exact points_bipartite q
  | wheel n => exact points_wheel q
  | star n => exact points_star q
  | grid r w => exact points_grid (by have h' : 1 ≤ r ∧ r ≤ 4 ∧ 1 ≤ w ∧ w ≤ 5 := h; omega) q
  | prism n => exact points_prism q
  | moebius n => exact points_moebius q
  | cube n => exact points_cube (by have h' : n ≤ 4 := h; omega) q
  | petersen => exact points_petersen hQ
theorem pairs_fam (F : Fam) (h : F.fine) (hQ : ∀ l S', S'[l]? = some (.lst (VM.prD F.prs)) → Keep [] S S' → Q (.lst l) S') : Ok (f_pairs_of [.str F.word, .tup (natD F.nums)]) S Q := by
  cases F with
  | ring n => exact pairs_ring (by have h' : 3 ≤ n ∧ n ≤ 20 := h; omega) hQ
  | path n => exact pairs_path (by have h' : n ≤ 20 := h; omega) hQ
  | complete n => exact pairs_complete (by have h' : n ≤ 20 := h; omega) hQ
  | bipartite a b => exact pairs_bipartite (by have h' : a ≤ 10 ∧ b ≤ 10 := h; omega) (by have h' : a ≤ 10 ∧ b ≤ 10 := h; omega) hQ
  | wheel n => exact pairs_wheel (by have h' : 3 ≤ n ∧ n ≤ 19 := h; omega) hQ
  | star n => exact pairs_star (by have h' : n ≤ 19 := h; omega) hQ
  | grid r w => exact pairs_grid (by have h' : 1 ≤ r ∧ r ≤ 4 ∧ 1 ≤ w ∧ w ≤ 5 := h; omega) (by have h' : 1 ≤ r ∧ r ≤ 4 ∧ 1 ≤ w ∧ w ≤ 5 := h; omega) hQ
  | prism n => exact pairs_prism (by have h' : 3 ≤ n ∧ n ≤ 10 := h; omega) hQ
  | moebius n => exact pairs_moebius (by have h' : 2 ≤ n ∧ n ≤ 10 := h; omega) hQ
  | cube n => exact pairs_cube (by have h' : n ≤ 4 := h; omega) hQ
  | petersen => exact pairs_petersen hQ
def Fam.least : Fam → List Nat
  | .ring _ => [3] | .path _ => [0] | .complete _ => [0] | .bipartite _ _ => [0, 0] | .wheel _ => [3] | .star _ => [0] | .grid _ _ => [1, 1] | .prism _ => [3] | .moebius _ => [2] | .cube _ => [0] | .petersen => []
theorem Fam.tab (F : Fam) : tabGet T_LEAST F.word = some (.tup (natD F.least)) := by
  cases F <;> kernel_rfl
theorem fam_ok (F : Fam) (h : F.fine) (hL : okL F.pts F.prs = true) (hz : F.prs.length < 1000) (hQ : ∀ S', Keep [] S S' → Q (gD F.pts (adjL F.prs)) S') : Ok (f_family [.str F.word, .tup (natD F.nums)]) S Q := by
  have hlim : lim = 1000000 := rfl
  unfold f_family b_family
  simp (decide := true) [ok_mFun]
  have hs : isiM "str" S (D.str F.word) = some true := by
    have e : kitB "str" "str" = some true := by decide +kernel
    exact e
  refine ⟨hs, ?_⟩
  rw [ok_tabIn F.tab]
  refine ⟨rfl, ?_⟩
  rw [ok_tabIx F.tab]
  have el : F.nums.length = F.least.length := by cases F <;> rfl
  have hn5 : F.nums.length ≤ 5 := by cases F <;> simp [Fam.nums]
  simp [el]
  refine ok_compPick (L := F.nums) (f := fun x : Nat => D.int (x : Int)) (p := fun _ => true) (h := fun _ => D.bl true) (lv := []) (F.nums.map fun _ => D.bl true) (by simp [natD]) (by simp) ?_ (by rw [List.filter_eq_self.mpr fun _ _ => rfl]) (by rw [List.length_map]; omega) ?_
  · intro x hx N hN
    simpa using hN
  · have e1 : (F.nums.map fun _ => D.bl true) = (F.nums.map fun _ => true).map D.bl := by rw [List.map_map]; rfl
    rw [e1, ok_allL get_last]
    have e2 : (F.nums.map fun _ => true).all id = true := by simp
    rw [e2]
    simp
    refine ok_compPick (L := F.nums.zip F.least) (f := fun z => D.pr [.int (z.1 : Int), .int (z.2 : Int)]) (p := fun _ => true) (h := fun _ => D.bl true) (lv := []) ((F.nums.zip F.least).map fun _ => D.bl true) ?_ (by simp) ?_ (by rw [List.filter_eq_self.mpr fun _ _ => rfl]) (by rw [List.length_map, List.length_zip]; omega) ?_
    · simp
      rw [pairD_nat]
    · intro z hz N hN
      have hge : z.2 ≤ z.1 := by
        cases F <;> simp [Fam.nums, Fam.least] at hz <;> simp only [Fam.fine] at h
        all_goals first
          | (subst hz; dsimp only; omega)
          | (rcases hz with rfl | rfl <;> dsimp only <;> omega)
      simp [hge]
      simpa using hN
    · have e3 : ((F.nums.zip F.least).map fun _ => D.bl true) = ((F.nums.zip F.least).map fun _ => true).map D.bl := by rw [List.map_map]; rfl
      rw [e3, ok_allL get_last]
      have e4 : ((F.nums.zip F.least).map fun _ => true).all id = true := by simp
      rw [e4]
      simp
      refine points_fam F h fun S1 k1 => ?_
      have hp := F.pts_le h
      simp
      refine ⟨by omega, ?_⟩
      unfold f_family_in b_family_in
      simp [ok_mFun]
      refine points_fam F h fun S2 k2 => ?_
      refine pairs_fam F h fun l S3 h3 k3 => ?_
      refine graph_in_ok (A := adjL F.prs) h3 (by omega) (okL_sp hL) fun S4 k4 => hQ S4 ?_
      exact keep_app.trans (k1.trans (k2.trans (k3.trans k4)))
end
end VMP

/-! K70_B3: how far: the walk -/
namespace VMP
open PySem PySem.Spec PyProof.Rows L2 VM
/-- dd tells how far each point is from f -/
structure Cert (n : Nat) (A : Adj) (f : Nat) (dd : Nat → Option Nat) : Prop where
  z : dd f = some 0
  one : ∀ x, x < n → dd x = some 0 → x = f
  up : ∀ x y, x < n → y < n → A x y = true → ∀ k, dd x = some k → ∃ m, dd y = some m ∧ m ≤ k + 1
  dn : ∀ y, y < n → ∀ k, dd y = some (k + 1) → ∃ x, x < n ∧ A x y = true ∧ dd x = some k
  lt : ∀ x, x < n → ∀ k, dd x = some k → k ≤ n
structure Fnd (n : Nat) (dd : Nat → Option Nat) (t : Nat) (L : List (Nat × D)) : Prop where
  nd : (L.map (·.1)).Nodup
  mem : ∀ x, x ∈ L.map (·.1) ↔ x < n ∧ ∃ k, k ≤ t ∧ dd x = some k
  val : ∀ p ∈ L, ∃ k : Nat, dd p.1 = some k ∧ p.2 = .int (k : Int)
structure Lay (n : Nat) (dd : Nat → Option Nat) (t : Nat) (M : List Nat) : Prop where
  nd : M.Nodup
  mem : ∀ x, x ∈ M ↔ x < n ∧ dd x = some t
def optD : Option Nat → D
  | some k => .int (k : Int)
  | none => .non
section
variable {S : Store} {Q : D → Store → Prop}
theorem ok_setF {l x : Nat} {L : List (Nat × D)} {v : D} {Q : Unit → Store → Prop} (h : S[l]? = some (.dct (kvF L))) (hl : L.length < lim) (hx : x ∉ L.map (·.1)) : Ok (setA (.dct l) (.int (x : Int)) v) S Q ↔ Q () (S.set l (.dct (kvF (L ++ [(x, v)])))) := by
  refine ok_iff ?_
  show (match S[l]?, D.key (.int (x : Int)) with
    | some (.dct kvs), some nk => if fits kvs nk = true ∧ kvs.length < lim then some ((), S.set l (.dct (dput kvs nk v))) else none
    | _, _ => none) = _
  rw [h, key_nat]
  dsimp only
  rw [if_pos ⟨kvF_fits, by rw [kvF_length]; exact hl⟩, kvF_putNew hx]
theorem ok_getF {l x : Nat} {L : List (Nat × D)} {e : D} (h : S[l]? = some (.dct (kvF L))) : Ok (getM (.dct l) [.int (x : Int), e]) S Q ↔ Q (((L.find? fun p => decide (p.1 = x)).map (·.2)).getD e) S := by
  rw [ok_getD h key_nat kvF_fits, kvF_get]
theorem ok_ninF {l x : Nat} {L : List (Nat × D)} (h : S[l]? = some (.dct (kvF L))) : Ok (ninA (.int (x : Int)) (.dct l)) S Q ↔ Q (.bl (!decide (x ∈ L.map (·.1)))) S := by
  refine ok_iff ?_
  show (lookD S (.dct l) (.int (x : Int))).map _ = _
  rw [look_nat (.inl h) kvF_fits, kvF_get]
  have : ((L.find? fun p => decide (p.1 = x)).map (·.2)).isSome = decide (x ∈ L.map (·.1)) := by
    rw [Bool.eq_iff_iff, Option.isSome_map, List.find?_isSome, decide_eq_true_eq, List.mem_map]
    simp
  show some (D.bl _, S) = _
  rw [this]
theorem far_ok {n f : Nat} {A : Adj} {dd : Nat → Option Nat} (g : Gr A) (hn : n ≤ 20) (hf : f < n) (C : Cert n A f dd) (hQ : ∀ l S', S'[l]? = some (.lst ((List.range n).map fun x => optD (dd x))) → Keep [] S S' → Q (.lst l) S') :
    Ok (f__law_far [.tup (tupsD ((List.range n).map fun v => nbr n A v)), .int (f : Int)]) S Q := by
  have hlim : lim = 1000000 := rfl
  have htl : (tupsD ((List.range n).map fun v => nbr n A v)).length = n := by simp [tupsD]
  unfold f__law_far b__law_far
  simp [ok_mFun, ok_sFor, htl]
  rw [ok_putM]
  refine ⟨_, key_nat, by rfl, by rw [hlim]; decide, ?_⟩
  have hk0 : dput [] (.num (f : Int)) (.int 0) = kvF [(f, .int 0)] := rfl
  rw [hk0]
  simp [hlim]
  refine ⟨by omega, ?_⟩
  have row : ∀ v, v < n → atI (tupsD ((List.range n).map fun v => nbr n A v)) (v : Int) = some (.tup (natD (nbr n A v))) := fun v hv => by
    refine VM.atI_nat ?_
    simp [tupsD, hv]
  generalize hrows : tupsD ((List.range n).map fun v => nbr n A v) = rows at row htl ⊢
  refine ok_for' (fun pre ρ S1 => ∃ L M b y4 y5 y6, ρ = [some (D.tup rows), some (D.int (f : Int)), some (D.dct S.length), some (D.lst b), y4, y5, y6, none] ∧ S1[S.length]? = some (.dct (kvF L)) ∧ S1[b]? = some (.lst (natD M)) ∧
    Fnd n dd pre.length L ∧ Lay n dd pre.length M ∧ Keep [] S S1 ∧ S.length < b) ?_ (fun _ _ _ _ => live_nil) ?_ ?_
  · refine ⟨[(f, .int 0)], [f], S.length + 1, none, none, none, rfl, get_two0, get_two1, ?_, ?_, keep_app, by omega⟩
    · refine ⟨by simp, fun x => ?_, fun p hp => ?_⟩
      · simp only [List.map_cons, List.map_nil, List.mem_singleton, List.length_nil]
        constructor
        · rintro rfl
          exact ⟨hf, 0, Nat.le_refl _, C.z⟩
        · rintro ⟨h1, k, h2, h3⟩
          obtain rfl : k = 0 := by omega
          exact C.one x h1 h3
      · rw [List.mem_singleton.mp hp]
        exact ⟨0, C.z, rfl⟩
    · refine ⟨by simp, fun x => ?_⟩
      rw [List.mem_singleton]
      constructor
      · rintro rfl
        exact ⟨hf, C.z⟩
      · rintro ⟨h1, h3⟩
        exact C.one x h1 h3
  · rintro pre d post ρ S1 N Q1 e ⟨L, M, b, y4, y5, y6, rfl, g1, g2, fnd, lay, k1, hb⟩ hN
    obtain ⟨ht, rfl⟩ := rowD_split' e
    have lM : M.length ≤ n := nd_leN lay.nd fun x hx => ((lay.mem x).mp hx).1
    have lL : L.length ≤ n := by
      have := nd_leN fnd.nd (n := n) fun x hx => ((fnd.mem x).mp hx).1
      rwa [List.length_map] at this
    generalize htt : pre.length = t at *
    simp [hlim, ok_sFor]
    have g1' := get_app (T := [Ob.lst []]) g1
    have g2' := get_app (T := [Ob.lst []]) g2
    have g3' := get_last (S := S1) (o := Ob.lst [])
    have k2 : Keep [] S (S1 ++ [Ob.lst []]) := k1.trans keep_app
    have hc1 : b < S1.length := lt_of_get g2
    have hc2 : S.length < S1.length := lt_of_get g1
    generalize S1.length = c at g3' hc1 hc2 ⊢
    generalize S1 ++ [Ob.lst []] = S2 at g1' g2' g3' k2 ⊢
    refine ⟨_, _, ⟨_, g2', rfl, rfl⟩, ?_⟩
    refine ok_for' (fun pre ρ S3 => ∃ P R W y6, M = P ++ R ∧ pre = natD P ∧ ρ = [some (D.tup rows), some (D.int (f : Int)), some (D.dct S.length), some (D.lst b), some (D.int (t : Int)), some (D.lst c), y6, none] ∧ S3[S.length]? = some (.dct (kvF L)) ∧ S3[b]? = some (.lst (natD M)) ∧
      S3[c]? = some (.lst (natD W)) ∧ W.Nodup ∧ (∀ x, x ∈ W ↔ x < n ∧ x ∉ L.map (·.1) ∧ ∃ o ∈ P, A o x = true) ∧ Keep [] S S3) ?_ ?_ ?_ ?_
    · exact ⟨[], M, [], y6, rfl, rfl, rfl, g1', g2', g3', List.nodup_nil, fun x => by simp, k2⟩
    · rintro pre ρ S3 ⟨_, _, _, _, _, _, _, _, q, _⟩
      exact live_one.mpr q
    · rintro pre d post ρ S3 N2 Q2 e ⟨P, R, W, y6, e1, rfl, rfl, q1, q2, q3, nd, hW, k3⟩ hN2
      obtain ⟨P', o, R', e2, e3, rfl, e4⟩ := natD_split e
      obtain rfl := natD_inj.mp e3
      have ho : o ∈ M := by rw [e2]; simp
      have hon := ((lay.mem o).mp ho).1
      have lW : W.length ≤ n := nd_leN nd fun x hx => ((hW x).mp hx).1
      simp [row o hon, q3]
      refine ok_compPick (L := nbr n A o) (f := fun x : Nat => D.int (x : Int)) (p := fun x => !decide (x ∈ L.map (·.1)) && !decide (x ∈ W)) (h := fun x : Nat => D.int (x : Int)) (lv := []) (natD ((nbr n A o).filter fun x => !decide (x ∈ L.map (·.1)) && !decide (x ∈ W))) ?_ live_nil ?_ rfl ?_ ?_
      · simp [row o hon]
        rfl
      · intro x hx N3 hN3
        simp
        rw [ok_ninF q1]
        rw [ok_ninNL q3]
        by_cases c1 : x ∈ L.map (·.1)
        · exact .inl ⟨by rw [decide_eq_true c1]; rfl, by rw [decide_eq_true c1] at hN3; exact hN3⟩
        · refine .inr ⟨by rw [decide_eq_false c1]; rfl, ?_⟩
          rw [decide_eq_false c1] at hN3
          by_cases c2 : x ∈ W
          · exact .inl ⟨by rw [decide_eq_true c2]; rfl, by rw [decide_eq_true c2] at hN3; exact hN3⟩
          · exact .inr ⟨by rw [decide_eq_false c2]; rfl, by rw [decide_eq_false c2] at hN3; exact hN3⟩
      · have a1 := List.length_filter_le (fun x => !decide (x ∈ L.map (·.1)) && !decide (x ∈ W)) (nbr n A o)
        have a2 := nbr_len n A o
        rw [natD_length]
        omega
      · have a1 := List.length_filter_le (fun x => !decide (x ∈ L.map (·.1)) && !decide (x ∈ W)) (nbr n A o)
        have a2 := nbr_len n A o
        have q1' := get_app (T := [Ob.lst (natD ((nbr n A o).filter fun x => !decide (x ∈ L.map (·.1)) && !decide (x ∈ W)))]) q1
        have q2' := get_app (T := [Ob.lst (natD ((nbr n A o).filter fun x => !decide (x ∈ L.map (·.1)) && !decide (x ∈ W)))]) q2
        have q3' := get_app (T := [Ob.lst (natD ((nbr n A o).filter fun x => !decide (x ∈ L.map (·.1)) && !decide (x ∈ W)))]) q3
        have q4' := get_last (S := S3) (o := Ob.lst (natD ((nbr n A o).filter fun x => !decide (x ∈ L.map (·.1)) && !decide (x ∈ W))))
        have k4 : Keep [] S (S3 ++ [Ob.lst (natD ((nbr n A o).filter fun x => !decide (x ∈ L.map (·.1)) && !decide (x ∈ W)))]) := k3.trans keep_app
        generalize hF : (nbr n A o).filter (fun x => !decide (x ∈ L.map (·.1)) && !decide (x ∈ W)) = F at a1 q1' q2' q3' q4' k4 ⊢
        generalize S3 ++ [Ob.lst (natD F)] = S4 at q1' q2' q3' q4' k4 ⊢
        simp [q3', q4', hlim]
        refine ⟨by omega, hN2 _ _ ⟨P ++ [o], R', W ++ F, _, by rw [e2]; simp, by simp, rfl, ?_, ?_, ?_, ?_, fun x => ?_, k4.setN (by omega)⟩⟩
        · rw [List.getElem?_set_ne (by omega)]; exact q1'
        · rw [List.getElem?_set_ne (by omega)]; exact q2'
        · rw [get_set q3', ← natD_append]
        · rw [List.nodup_append]
          refine ⟨nd, by rw [← hF]; exact (up_nd (nbr_up n A o)).filter _, fun a ha b' hb' e => ?_⟩
          rw [← hF] at hb'
          have := (List.mem_filter.mp hb').2
          simp at this
          exact this.2 (e ▸ ha)
        · rw [List.mem_append, hW x, ← hF, List.mem_filter, mem_nbr]
          have hWx := hW x
          constructor
          · rintro (⟨h1, h2, u, hu, h3⟩ | ⟨⟨h1, h2⟩, h3⟩)
            · exact ⟨h1, h2, u, List.mem_append_left _ hu, h3⟩
            · simp at h3
              refine ⟨h1, ?_, o, by simp, h2⟩
              simpa using h3.1
          · rintro ⟨h1, h2, u, hu, h3⟩
            by_cases cW : x ∈ W
            · exact .inl (hWx.mp cW)
            · rcases List.mem_append.mp hu with hu | hu
              · exact .inl ⟨h1, h2, u, hu, h3⟩
              · rw [List.mem_singleton.mp hu] at h3
                refine .inr ⟨⟨h1, h3⟩, ?_⟩
                simp [cW]
                simpa using h2
    · rintro ρ S3 ⟨P, R, W, y6, e1, e2, rfl, q1, q2, q3, nd, hW, k3⟩
      obtain rfl := natD_inj.mp e2
      have layW : Lay n dd (t + 1) W := by
        refine ⟨nd, fun x => ?_⟩
        rw [hW x]
        constructor
        · rintro ⟨h1, h2, u, hu, h3⟩
          obtain ⟨hun, hud⟩ := (lay.mem u).mp hu
          obtain ⟨m, h4, h5⟩ := C.up u x hun h1 h3 t hud
          have h6 : ¬ m ≤ t := fun h => h2 ((fnd.mem x).mpr ⟨h1, m, h, h4⟩)
          obtain rfl : m = t + 1 := by omega
          exact ⟨h1, h4⟩
        · rintro ⟨h1, h2⟩
          obtain ⟨u, h3, h4, h5⟩ := C.dn x h1 t h2
          refine ⟨h1, fun h => ?_, u, (lay.mem u).mpr ⟨h3, h5⟩, h4⟩
          obtain ⟨_, k, h6, h7⟩ := (fnd.mem x).mp h
          rw [h2] at h7
          have := Option.some.inj h7
          omega
      have lW : W.length ≤ n := nd_leN nd fun x hx => ((layW.mem x).mp hx).1
      have notL : ∀ x ∈ W, x ∉ L.map (·.1) := fun x hx => ((hW x).mp hx).2.1
      simp [ok_sFor]
      refine ⟨_, _, ⟨_, q3, rfl, rfl⟩, ?_⟩
      refine ok_for' (fun pre ρ S4 => ∃ P R y6, W = P ++ R ∧ pre = natD P ∧ ρ = [some (D.tup rows), some (D.int (f : Int)), some (D.dct S.length), some (D.lst b), some (D.int (t : Int)), some (D.lst c), y6, none] ∧ S4[S.length]? = some (.dct (kvF (L ++ P.map fun x => (x, D.int ((t + 1 : Nat) : Int))))) ∧
        S4[c]? = some (.lst (natD W)) ∧ Keep [] S S4) ?_ ?_ ?_ ?_
      · exact ⟨[], W, y6, rfl, rfl, rfl, by simpa using q1, q3, k3⟩
      · rintro pre ρ S4 ⟨_, _, _, _, _, _, _, q, _⟩
        exact live_one.mpr q
      · rintro pre d post ρ S4 N4 Q4 e ⟨P, R, y6, e1, rfl, rfl, r1, r2, k4⟩ hN4
        obtain ⟨P', o, R', e2, e3, rfl, e4⟩ := natD_split e
        obtain rfl := natD_inj.mp e3
        have hoW : o ∈ W := by rw [e2]; simp
        have hlen : P.length ≤ W.length := by rw [e2, List.length_append]; omega
        have nd' := nd
        rw [e2] at nd'
        have hnew : o ∉ (L ++ P.map fun x => (x, D.int ((t + 1 : Nat) : Int))).map (·.1) := by
          rw [List.map_append, List.map_map, List.mem_append]
          rintro (h | h)
          · exact notL o hoW h
          · obtain ⟨u, hu, hu2⟩ := List.mem_map.mp h
            have hu2' : u = o := hu2
            exact (List.nodup_append.mp nd').2.2 u hu o (by simp) hu2'
        simp
        rw [ok_setF r1 (by rw [List.length_append, List.length_map, hlim]; omega) hnew]
        refine hN4 _ _ ⟨P ++ [o], R', _, by rw [e2]; simp, by simp, rfl, ?_, ?_, k4.setN (Nat.le_refl _)⟩
        · rw [get_set r1]
          simp
        · rw [List.getElem?_set_ne (by omega)]; exact r2
      · rintro ρ S4 ⟨P, R, y6, e1, e2, rfl, r1, r2, k4⟩
        obtain rfl := natD_inj.mp e2
        simp
        refine hN _ _ ⟨L ++ W.map fun x => (x, D.int ((t + 1 : Nat) : Int)), W, c, _, _, _, rfl, r1, r2, ?_, by rw [List.length_append, htt]; exact layW, k4, by omega⟩
        rw [List.length_append, htt]
        refine ⟨?_, fun x => ?_, fun p hp => ?_⟩
        · rw [List.map_append, List.map_map, List.nodup_append]
          refine ⟨fnd.nd, ?_, fun a ha b' hb' e => ?_⟩
          · have : ((fun x : Nat × D => x.1) ∘ fun x : Nat => (x, D.int ((t + 1 : Nat) : Int))) = id := rfl
            rw [this, List.map_id]
            exact nd
          · obtain ⟨u, hu, hu2⟩ := List.mem_map.mp hb'
            have hu2' : u = b' := hu2
            subst hu2'
            exact notL u hu (e ▸ ha)
        · rw [List.map_append, List.map_map, List.mem_append, fnd.mem x]
          have : ((fun x : Nat × D => x.1) ∘ fun x : Nat => (x, D.int ((t + 1 : Nat) : Int))) = id := rfl
          rw [this, List.map_id, layW.mem x]
          constructor
          · rintro (⟨h1, k, h2, h3⟩ | ⟨h1, h2⟩)
            · exact ⟨h1, k, Nat.le_succ_of_le h2, h3⟩
            · exact ⟨h1, t + 1, Nat.le_refl _, h2⟩
          · rintro ⟨h1, k, h2, h3⟩
            by_cases hk : k ≤ t
            · exact .inl ⟨h1, k, hk, h3⟩
            · have h2' : k ≤ t + 1 := h2
              obtain rfl : k = t + 1 := by omega
              exact .inr ⟨h1, h3⟩
        · rcases List.mem_append.mp hp with hp | hp
          · exact fnd.val p hp
          · obtain ⟨u, hu, rfl⟩ := List.mem_map.mp hp
            exact ⟨t + 1, ((layW.mem u).mp hu).2, rfl⟩
  · rintro ρ S1 ⟨L, M, b, y4, y5, y6, rfl, g1, g2, fnd, lay, k1, hb⟩
    rw [rowD_len] at fnd
    simp [ok_sFor, htl]
    refine ok_compPick (L := List.range n) (f := fun x : Nat => D.int (x : Int)) (p := fun _ => true) (h := fun x => optD (dd x)) (lv := []) ((List.range n).map fun x => optD (dd x)) ?_ live_nil ?_ (by rw [List.filter_eq_self.mpr fun _ _ => rfl]) (by rw [List.length_map, List.length_range]; omega) (hQ _ _ get_last (k1.trans keep_app))
    · simp [rowD_nat, htl]
      exact ⟨by omega, rfl⟩
    · intro x hx N3 hN3
      have hx' := List.mem_range.mp hx
      simp [isDct, dictOf, g1]
      rw [ok_getF g1]
      have ev : ((L.find? fun p => decide (p.1 = x)).map (·.2)).getD D.non = optD (dd x) := by
        cases hd : dd x with
        | none =>
          have hnot : x ∉ L.map (·.1) := fun h => by
            obtain ⟨_, k, _, h3⟩ := (fnd.mem x).mp h
            rw [hd] at h3
            cases h3
          have : (L.find? fun p => decide (p.1 = x)) = none := List.find?_eq_none.mpr fun p hp h => hnot (List.mem_map.mpr ⟨p, hp, of_decide_eq_true h⟩)
          rw [this]
          rfl
        | some k =>
          have hin := (fnd.mem x).mpr ⟨hx', k, C.lt x hx' k hd, hd⟩
          obtain ⟨p, hp, hp2⟩ := List.mem_map.mp hin
          cases hfd : L.find? fun p => decide (p.1 = x) with
          | none =>
            have := List.find?_eq_none.mp hfd p hp
            simp at this
            exact absurd hp2 this
          | some q =>
            have h1 := List.find?_some hfd
            have h2 := List.mem_of_find?_eq_some hfd
            have h1' : q.1 = x := of_decide_eq_true h1
            obtain ⟨k', h3, h4⟩ := fnd.val q h2
            rw [h1', hd] at h3
            obtain rfl := Option.some.inj h3
            show q.2 = _
            rw [h4]
            rfl
      rw [ev]
      simpa using hN3
end
end VMP

/-! K70_B4: how far by formulas -/
namespace VMP
open PySem PySem.Spec PyProof.Rows L2 VM
def ad (i j : Nat) : Nat := (i - j) + (j - i)
def rnd (n i j : Nat) : Nat := min (ad i j) (n - ad i j)
def digs : Nat → Nat → Nat → Nat
  | 0, _, _ => 0
  | k + 1, i, j => (if i % 2 ≠ j % 2 then 1 else 0) + digs k (i / 2) (j / 2)
def Fam.due : Fam → Nat → Nat → Option Nat
  | .ring n, i, j => some (rnd n i j)
  | .path _, i, j => some (ad i j)
  | .complete _, _, _ => some 1
  | .bipartite a b, i, j => if decide (i < a) ≠ decide (j < a) then some 1 else if 0 < min a b then some 2 else none
  | .wheel n, i, j => if n = i ∨ n = j ∨ rnd n i j = 1 then some 1 else some 2
  | .star n, i, j => if n = i ∨ n = j then some 1 else some 2
  | .grid _ w, i, j => some (ad (i / w) (j / w) + ad (i % w) (j % w))
  | .prism n, i, j => some (rnd n (i % n) (j % n) + if i / n ≠ j / n then 1 else 0)
  | .moebius n, i, j => some (min (rnd (2 * n) i j) (n - rnd (2 * n) i j + 1))
  | .cube _, i, j => some (digs 5 i j)
  | .petersen, _, _ => none
def Fam.law : Fam → Prop
  | .petersen => False
  | _ => True
section
variable {S : Store} {Q : D → Store → Prop}
theorem ok_minL2 {l : Nat} {a b : Int} (h : S[l]? = some (.lst [.int a, .int b])) : Ok (fMinA [.lst l]) S Q ↔ Q (.int (min a b)) S := by
  refine ok_iff ?_
  show (match S[l]? with
    | some (.lst ds) => ((intsOf ds).bind leastI).map fun n => (D.int n, S)
    | _ => none) = _
  rw [h]
  rfl
theorem ok_minT2 {a b : Int} : Ok (fMinA [.tup [.int a, .int b]]) S Q ↔ Q (.int (min a b)) S := ok_iff rfl
theorem ok_neB {a b : Bool} : Ok (neM (.bl a) (.bl b)) S Q ↔ Q (.bl (!decide (a = b))) S := by
  cases a <;> cases b <;> exact ok_iff rfl
theorem ok_eqB {a b : Bool} : Ok (eqM (.bl a) (.bl b)) S Q ↔ Q (.bl (decide (a = b))) S := by
  cases a <;> cases b <;> exact ok_iff rfl
theorem abs_ad {i j : Nat} : (if (i : Int) - j < 0 then -((i : Int) - j) else (i : Int) - j) = ((ad i j : Nat) : Int) := by
  unfold ad
  split <;> omega
theorem ok_inWS {a : Str} (ha : Ly a) : Ok (inA (.str a) (.lst S.length)) (S ++ [Ob.lst [D.str "wheel", D.str "star"]]) Q ↔ Q (.bl (decide (a = "wheel") || decide (a = "star"))) (S ++ [Ob.lst [D.str "wheel", D.str "star"]]) := by
  have e := ok_inSL (S := S ++ [Ob.lst [D.str "wheel", D.str "star"]]) (Q := Q) (l := S.length) (bs := ["wheel", "star"]) (a := a) get_last ha (fun x hx => by simp at hx; rcases hx with rfl | rfl <;> simp)
  refine e.trans ?_
  simp
theorem cdiv {i w : Nat} : ((i : Int) / (w : Int)) = ((i / w : Nat) : Int) := (Int.natCast_ediv i w).symm
theorem cmod {i w : Nat} : (i : Int) - ((i / w : Nat) : Int) * (w : Int) = ((i % w : Nat) : Int) := by
  have h := Nat.div_add_mod i w
  have h2 : ((w * (i / w) + i % w : Nat) : Int) = (i : Int) := by rw [h]
  rw [Int.natCast_add, Int.natCast_mul, Int.mul_comm] at h2
  omega
theorem round_ok {n i j : Nat} (hi : i < n) (hj : j < n) (hQ : ∀ S', Keep [] S S' → Q (.int (rnd n i j : Nat)) S') : Ok (f__law_round [.int (n : Int), .int (i : Int), .int (j : Int)]) S Q := by
  have hlim : lim = 1000000 := rfl
  unfold f__law_round b__law_round
  simp [ok_mFun, hlim]
  rw [abs_ad, ok_minL2 get_last]
  have e : min ((ad i j : Nat) : Int) ((n : Int) - ((ad i j : Nat) : Int)) = ((rnd n i j : Nat) : Int) := by
    have : ad i j ≤ n := by unfold ad; omega
    unfold rnd
    omega
  rw [e]
  exact hQ _ keep_app
theorem digits_ok {i j : Nat} (hQ : ∀ S', Keep [] S S' → Q (.int (digs 5 i j : Nat)) S') : Ok (f__law_digits [.int (i : Int), .int (j : Int)]) S Q := by
  have hlim : lim = 1000000 := rfl
  unfold f__law_digits b__law_digits
  simp [ok_mFun, ok_sFor]
  refine ok_for (fun pre ρ S1 => S1 = S ∧ ∃ a b c : Nat, ∃ y, ρ = [some (D.int (a : Int)), some (D.int (b : Int)), some (D.int (c : Int)), y] ∧ c + digs (5 - pre.length) a b = digs 5 i j) ?_ (fun _ _ _ _ => live_nil) ?_ ?_
  · exact ⟨rfl, i, j, 0, none, rfl, by simp⟩
  · rintro pre d post ρ S1 e ⟨rfl, a, b, c, y, rfl, hc⟩
    have hp : pre.length < 5 := by
      have := congrArg List.length e
      rw [List.length_append, List.length_cons] at this
      have h5 : (rowD 0 5).length = 5 := rfl
      omega
    have e5 : 5 - pre.length = (5 - (pre.length + 1)) + 1 := by omega
    rw [e5, digs] at hc
    simp
    have ea : ((a : Int) - (a : Int) / 2 * 2) = ((a % 2 : Nat) : Int) := by omega
    have eb : ((b : Int) - (b : Int) / 2 * 2) = ((b % 2 : Nat) : Int) := by omega
    have e4 : 5 - (pre.length + 1) = 4 - pre.length := by omega
    rw [e4] at hc
    by_cases c1 : a % 2 = b % 2
    · rw [if_neg (by simpa using c1)] at hc
      exact .inl ⟨by omega, a / 2, b / 2, c, ⟨by omega, by omega, rfl⟩, by omega⟩
    · rw [if_pos c1] at hc
      exact .inr ⟨by omega, a / 2, b / 2, c + 1, ⟨by omega, by omega, by omega⟩, by omega⟩
  · rintro ρ S1 ⟨rfl, a, b, c, y, rfl, hc⟩
    have h5 : (rowD 0 5).length = 5 := rfl
    rw [h5] at hc
    have h0 : digs (5 - 5) a b = 0 := rfl
    rw [h0, Nat.add_zero] at hc
    simp
    rw [hc]
    exact hQ _ Keep.refl
theorem due_ok (F : Fam) (h : F.fine) (hl : F.law) {i j : Nat} (hi : i < F.pts) (hj : j < F.pts) (hQ : ∀ S', Keep [] S S' → Q (optD (F.due i j)) S') : Ok (f__law_due [.str F.word, .tup (natD F.nums), .int (i : Int), .int (j : Int)]) S Q := by
  have hlim : lim = 1000000 := rfl
  cases F with
  | petersen => cases hl
  | ring n =>
    unfold f__law_due b__law_due Fam.word Fam.nums
    simp (decide := true) [ok_mFun]
    exact round_ok hi hj hQ
  | path n =>
    unfold f__law_due b__law_due Fam.word Fam.nums
    simp (decide := true) [ok_mFun]
    rw [abs_ad]
    exact hQ _ Keep.refl
  | complete n =>
    unfold f__law_due b__law_due Fam.word Fam.nums
    simp (decide := true) [ok_mFun]
    exact hQ _ Keep.refl
  | bipartite a b =>
    unfold f__law_due b__law_due Fam.word Fam.nums
    simp (decide := true) [ok_mFun]
    rw [ok_neB]
    have hd : (Fam.bipartite a b).due i j = if decide (i < a) ≠ decide (j < a) then some 1 else if 0 < min a b then some 2 else none := rfl
    rw [hd] at hQ
    have q := hQ S Keep.refl
    by_cases c1 : decide (i < a) = decide (j < a)
    · refine .inl ⟨by rw [decide_eq_true c1]; rfl, ?_⟩
      rw [ok_minT2]
      simp
      rw [if_neg (fun h => h c1)] at q
      by_cases c2 : 0 < min a b
      · rw [if_pos c2] at q
        exact .inr ⟨by omega, q⟩
      · rw [if_neg c2] at q
        exact .inl ⟨by omega, q⟩
    · refine .inr ⟨by rw [decide_eq_false c1]; rfl, ?_⟩
      rw [if_pos c1] at q
      exact q
  | wheel n =>
    have hi' : i < n + 1 := hi
    have hj' : j < n + 1 := hj
    unfold f__law_due b__law_due Fam.word Fam.nums
    simp (decide := true) [ok_mFun]
    rw [ok_inWS (by simp)]
    refine .inr ⟨congrArg D.bl (by decide +kernel), ?_⟩
    have hn2 : (S ++ [Ob.lst [D.str "wheel", D.str "star"]] ++ [Ob.lst [D.int (i : Int), D.int (j : Int)]])[(S ++ [Ob.lst [D.str "wheel", D.str "star"]]).length]? = some (.lst (natD [i, j])) := get_last
    rw [ok_inNL hn2]
    have hd : (Fam.wheel n).due i j = if n = i ∨ n = j ∨ rnd n i j = 1 then some 1 else some 2 := rfl
    rw [hd] at hQ
    by_cases c1 : n = i ∨ n = j
    · refine .inr ⟨by simp [c1], ?_⟩
      rw [if_pos (by rcases c1 with c1 | c1; exact .inl c1; exact .inr (.inl c1))] at hQ
      exact hQ _ (keep_app.trans keep_app)
    · refine .inl ⟨by simp [c1], ?_⟩
      refine round_ok (by omega) (by omega) fun S1 k1 => ?_
      have kk := (keep_app.trans keep_app).trans k1
      simp
      by_cases c2 : rnd n i j = 1
      · rw [if_pos (.inr (.inr c2))] at hQ
        exact .inr ⟨by omega, hQ _ kk⟩
      · rw [if_neg (by omega)] at hQ
        exact .inl ⟨by omega, hQ _ kk⟩
  | star n =>
    unfold f__law_due b__law_due Fam.word Fam.nums
    simp (decide := true) [ok_mFun]
    rw [ok_inWS (by simp)]
    refine .inr ⟨congrArg D.bl (by decide +kernel), ?_⟩
    have hn2 : (S ++ [Ob.lst [D.str "wheel", D.str "star"]] ++ [Ob.lst [D.int (i : Int), D.int (j : Int)]])[(S ++ [Ob.lst [D.str "wheel", D.str "star"]]).length]? = some (.lst (natD [i, j])) := get_last
    rw [ok_inNL hn2]
    have hd : (Fam.star n).due i j = if n = i ∨ n = j then some 1 else some 2 := rfl
    rw [hd] at hQ
    by_cases c1 : n = i ∨ n = j
    · refine .inr ⟨by simp [c1], ?_⟩
      rw [if_pos c1] at hQ
      exact hQ _ (keep_app.trans keep_app)
    · refine .inl ⟨by simp [c1], ?_⟩
      rw [if_neg c1] at hQ
      exact hQ _ (keep_app.trans keep_app)
  | grid r w =>
    have h' : 1 ≤ r ∧ r ≤ 4 ∧ 1 ≤ w ∧ w ≤ 5 := h
    unfold f__law_due b__law_due Fam.word Fam.nums
    simp (decide := true) [ok_mFun]
    rw [ok_inWS (by simp)]
    refine .inl ⟨congrArg D.bl (by decide +kernel), ?_⟩
    try simp
    refine ⟨by omega, .inr (by omega), by omega, .inr (by omega), ?_⟩
    rw [cdiv, cdiv, cmod, cmod, abs_ad, abs_ad]
    have q := hQ (S ++ [Ob.lst [D.str "wheel", D.str "star"]]) keep_app
    exact q
  | prism n =>
    have h' : 3 ≤ n ∧ n ≤ 10 := h
    unfold f__law_due b__law_due Fam.word Fam.nums
    simp (decide := true) [ok_mFun]
    rw [ok_inWS (by simp)]
    refine .inl ⟨congrArg D.bl (by decide +kernel), ?_⟩
    try simp
    refine ⟨by omega, .inr (by omega), by omega, .inr (by omega), ?_⟩
    rw [cdiv, cdiv, cmod, cmod]
    refine round_ok (Nat.mod_lt _ (by omega)) (Nat.mod_lt _ (by omega)) fun S1 k1 => ?_
    have kk := (keep_app (w := []) (S := S) (T := [Ob.lst [D.str "wheel", D.str "star"]])).trans k1
    have hd : (Fam.prism n).due i j = some (rnd n (i % n) (j % n) + if i / n ≠ j / n then 1 else 0) := rfl
    rw [hd] at hQ
    have q := hQ S1 kk
    simp
    refine ⟨by omega, ?_⟩
    by_cases c1 : i / n = j / n
    · rw [if_neg (fun h => h c1)] at q
      exact .inl ⟨by omega, q⟩
    · rw [if_pos c1] at q
      exact .inr ⟨by omega, q⟩
  | moebius n =>
    have h' : 2 ≤ n ∧ n ≤ 10 := h
    have hi' : i < 2 * n := hi
    have hj' : j < 2 * n := hj
    unfold f__law_due b__law_due Fam.word Fam.nums
    simp (decide := true) [ok_mFun]
    rw [ok_inWS (by simp)]
    refine .inl ⟨congrArg D.bl (by decide +kernel), ?_⟩
    try simp
    have e2 : (2 * (n : Int)) = ((2 * n : Nat) : Int) := by simp
    rw [e2]
    refine round_ok hi' hj' fun S1 k1 => ?_
    have kk := (keep_app (w := []) (S := S) (T := [Ob.lst [D.str "wheel", D.str "star"]])).trans k1
    simp [hlim]
    rw [ok_minL2 get_last]
    have hr : rnd (2 * n) i j ≤ n := by unfold rnd; omega
    have e : min ((rnd (2 * n) i j : Nat) : Int) ((n : Int) - ((rnd (2 * n) i j : Nat) : Int) + 1) = ((min (rnd (2 * n) i j) (n - rnd (2 * n) i j + 1) : Nat) : Int) := by omega
    rw [e]
    exact hQ _ (kk.trans keep_app)
  | cube n =>
    unfold f__law_due b__law_due Fam.word Fam.nums
    simp (decide := true) [ok_mFun]
    rw [ok_inWS (by simp)]
    refine .inl ⟨congrArg D.bl (by decide +kernel), ?_⟩
    exact digits_ok fun S1 k1 => hQ S1 (keep_app.trans k1)
end
end VMP

/-! K70_B5: the formulas tell how far points are: checked family by family -/
namespace VMP
open PySem PySem.Spec PyProof.Rows L2 VM
def Fam.dd (F : Fam) (i j : Nat) : Option Nat := if Nat.beq j i = true then some 0 else F.due i j
def leS : Option Nat → Option Nat → Bool
  | some k, some m => Nat.ble m (k + 1)
  | some _, none => false
  | none, _ => true
def eqS (o : Option Nat) (k : Nat) : Bool := match o with
  | some m => Nat.beq m k
  | none => false
def chkJ (n : Nat) (L : List (Nat × Nat)) (i : Nat) (dd : Nat → Option Nat) (j : Nat) : Option Nat → Bool
  | none => true
  | some 0 => Nat.beq j i
  | some (k + 1) => Nat.ble (k + 1) n && L.any fun p => (Nat.beq p.2 j && eqS (dd p.1) k) || (Nat.beq p.1 j && eqS (dd p.2) k)
def chkI (n : Nat) (L : List (Nat × Nat)) (i : Nat) (dd : Nat → Option Nat) : Bool :=
  (L.all fun p => leS (dd p.1) (dd p.2) && leS (dd p.2) (dd p.1)) && (List.range n).all fun j => chkJ n L i dd j (dd j)
def Fam.chk (F : Fam) : Bool := (okL F.pts F.prs && Nat.ble F.prs.length 999) && ((List.range F.pts).all fun i => chkI F.pts F.prs i (F.dd i))
theorem leS_ok {a b : Option Nat} (h : leS a b = true) : ∀ k, a = some k → ∃ m, b = some m ∧ m ≤ k + 1 := by
  rintro k rfl
  cases b with
  | none => cases h
  | some m => exact ⟨m, rfl, Nat.le_of_ble_eq_true h⟩
theorem eqS_ok {o : Option Nat} {k : Nat} (h : eqS o k = true) : o = some k := by
  cases o with
  | none => cases h
  | some m => rw [Nat.eq_of_beq_eq_true h]
/-- what is asked of a family -/
structure Fam.Cd (F : Fam) : Prop where
  ok : okL F.pts F.prs = true
  len : F.prs.length < 1000
  cert : ∀ i, i < F.pts → Cert F.pts (adjL F.prs) i (F.dd i)
theorem Fam.cert_of {F : Fam} (h : F.chk = true) : F.Cd := by
  obtain ⟨h0, h2⟩ := Bool.and_eq_true_iff.mp h
  obtain ⟨h1, hl⟩ := Bool.and_eq_true_iff.mp h0
  refine ⟨h1, Nat.lt_succ_of_le (Nat.le_of_ble_eq_true hl), fun i hi => ?_⟩
  have h3 := List.all_eq_true.mp h2 i (List.mem_range.mpr hi)
  obtain ⟨h4, h5⟩ := Bool.and_eq_true_iff.mp h3
  have hj : ∀ j, j < F.pts → chkJ F.pts F.prs i (F.dd i) j (F.dd i j) = true := fun j hj => List.all_eq_true.mp h5 j (List.mem_range.mpr hj)
  have mem : ∀ x y, adjL F.prs x y = true → (x, y) ∈ F.prs ∨ (y, x) ∈ F.prs := fun x y h => by
    unfold adjL at h
    rwa [Bool.or_eq_true, decide_eq_true_eq, decide_eq_true_eq] at h
  refine ⟨?_, fun x hx e => ?_, fun x y hx hy ha k hk => ?_, fun y hy k hk => ?_, fun x hx k hk => ?_⟩
  · unfold Fam.dd
    rw [if_pos (Nat.beq_refl i)]
  · have := hj x hx
    rw [e] at this
    exact Nat.eq_of_beq_eq_true this
  · rcases mem x y ha with hm | hm
    · exact leS_ok (Bool.and_eq_true_iff.mp (List.all_eq_true.mp h4 _ hm)).1 k hk
    · exact leS_ok (Bool.and_eq_true_iff.mp (List.all_eq_true.mp h4 _ hm)).2 k hk
  · have := hj y hy
    rw [hk] at this
    obtain ⟨_, h6⟩ := Bool.and_eq_true_iff.mp this
    obtain ⟨⟨a, b⟩, hp, h7⟩ := List.any_eq_true.mp h6
    have hpl := List.all_eq_true.mp h1 _ hp
    simp at hpl
    rcases Bool.or_eq_true_iff.mp h7 with h8 | h8
    · obtain ⟨h9, h10⟩ := Bool.and_eq_true_iff.mp h8
      obtain rfl : b = y := Nat.eq_of_beq_eq_true h9
      exact ⟨a, hpl.2.1, by simp [adjL, hp], eqS_ok h10⟩
    · obtain ⟨h9, h10⟩ := Bool.and_eq_true_iff.mp h8
      obtain rfl : a = y := Nat.eq_of_beq_eq_true h9
      exact ⟨b, hpl.2.2, by simp [adjL, hp], eqS_ok h10⟩
  · have := hj x hx
    rw [hk] at this
    cases k with
    | zero => exact Nat.zero_le _
    | succ k => exact Nat.le_of_ble_eq_true (Bool.and_eq_true_iff.mp this).1
theorem chk_ring : ((List.range 21).all fun n => Nat.ble n 2 || (Fam.ring n).chk) = true := by decide +kernel
theorem chk_path : ((List.range 21).all fun n => (Fam.path n).chk) = true := by decide +kernel
theorem chk_prism : ((List.range 11).all fun n => Nat.ble n 2 || (Fam.prism n).chk) = true := by decide +kernel
theorem chk_moebius : ((List.range 11).all fun n => Nat.ble n 1 || (Fam.moebius n).chk) = true := by decide +kernel
theorem chk_cube : ((List.range 5).all fun n => (Fam.cube n).chk) = true := by decide +kernel
theorem chk_grid : ((List.range 5).all fun r => (List.range 6).all fun w => Nat.ble r 0 || (Nat.ble w 0 || (Fam.grid r w).chk)) = true := by decide +kernel
theorem chk_wheel : ((List.range 20).all fun n => Nat.ble n 2 || (Fam.wheel n).chk) = true := by decide +kernel
theorem chk_star : ((List.range 20).all fun n => (Fam.star n).chk) = true := by decide +kernel
theorem cd_complete {n : Nat} (hn : n ≤ 20) : (Fam.complete n).Cd := by
  have hm : ∀ x y, x < n → y < n → x ≠ y → adjL (foundL n) x y = true := fun x y hx hy h => by
    unfold adjL
    rw [Bool.or_eq_true, decide_eq_true_eq, decide_eq_true_eq, mem_foundL, mem_foundL]
    omega
  have hd : ∀ i j, (Fam.complete n).dd i j = if j = i then some 0 else some 1 := fun i j => by
    show (if Nat.beq j i = true then some 0 else some 1) = _
    by_cases e : j = i
    · rw [if_pos (by rw [e]; exact Nat.beq_refl i), if_pos e]
    · rw [if_neg (fun h => e (Nat.eq_of_beq_eq_true h)), if_neg e]
  refine ⟨?_, ?_, fun i hi => ?_⟩
  · refine List.all_eq_true.mpr fun p hp => ?_
    obtain ⟨h1, h2⟩ := mem_foundL.mp (show (p.1, p.2) ∈ foundL n from hp)
    show (decide (p.1 ≠ p.2) && (decide (p.1 < n) && decide (p.2 < n))) = true
    simp
    omega
  · have := foundL_len n
    have : n * n ≤ 20 * 20 := Nat.mul_le_mul hn hn
    show (foundL n).length < 1000
    omega
  · have hi' : i < n := hi
    refine ⟨by rw [hd, if_pos rfl], fun x hx e => ?_, fun x y hx hy ha k hk => ?_, fun y hy k hk => ?_, fun x hx k hk => ?_⟩
    · rw [hd] at e
      split at e
      · assumption
      · cases e
    · rw [hd]
      split
      · exact ⟨0, rfl, by omega⟩
      · exact ⟨1, rfl, by omega⟩
    · rw [hd] at hk
      split at hk
      · cases hk
      · rename_i hne
        have := Option.some.inj hk
        obtain rfl : k = 0 := by omega
        exact ⟨i, hi, hm i y hi' hy fun e => hne e.symm, by rw [hd, if_pos rfl]⟩
    · rw [hd] at hk
      show k ≤ n
      split at hk
      · have := Option.some.inj hk; omega
      · have := Option.some.inj hk; omega
theorem mem_sided {a b x y : Nat} : (x, y) ∈ sidedL a b ↔ x < a ∧ a ≤ y ∧ y < a + b := by
  unfold sidedL
  simp only [List.mem_flatMap, List.mem_range, List.mem_map, Prod.mk.injEq]
  constructor
  · rintro ⟨i, hi, j, hj, rfl, rfl⟩; omega
  · rintro ⟨h1, h2, h3⟩; exact ⟨x, h1, y - a, by omega, rfl, by omega⟩
theorem cd_bipartite {a b : Nat} (ha : a ≤ 10) (hb : b ≤ 10) : (Fam.bipartite a b).Cd := by
  have hm : ∀ x y, adjL (sidedL a b) x y = true ↔ (x < a ∧ a ≤ y ∧ y < a + b) ∨ (y < a ∧ a ≤ x ∧ x < a + b) := fun x y => by
    unfold adjL
    rw [Bool.or_eq_true, decide_eq_true_eq, decide_eq_true_eq, mem_sided, mem_sided]
  have hd : ∀ i j, (Fam.bipartite a b).dd i j = if j = i then some 0 else if decide (i < a) ≠ decide (j < a) then some 1 else if 0 < min a b then some 2 else none := fun i j => by
    show (if Nat.beq j i = true then some 0 else if decide (i < a) ≠ decide (j < a) then some 1 else if 0 < min a b then some 2 else none) = _
    by_cases e : j = i
    · rw [if_pos (by rw [e]; exact Nat.beq_refl i), if_pos e]
    · rw [if_neg (fun h => e (Nat.eq_of_beq_eq_true h)), if_neg e]
  refine ⟨?_, ?_, fun i hi => ?_⟩
  · refine List.all_eq_true.mpr fun p hp => ?_
    obtain ⟨h1, h2, h3⟩ := mem_sided.mp (show (p.1, p.2) ∈ sidedL a b from hp)
    show (decide (p.1 ≠ p.2) && (decide (p.1 < a + b) && decide (p.2 < a + b))) = true
    simp
    omega
  · have e : (sidedL a b).length = a * b := sidedL_len (k := a)
    have : a * b ≤ 10 * 10 := Nat.mul_le_mul ha hb
    show (sidedL a b).length < 1000
    omega
  · have hi' : i < a + b := hi
    have key : ∀ j, (∀ k, (Fam.bipartite a b).dd i j = some k → (k = 0 ∧ j = i) ∨ (k = 1 ∧ j ≠ i ∧ ¬ (i < a ↔ j < a)) ∨ (k = 2 ∧ j ≠ i ∧ (i < a ↔ j < a) ∧ 0 < a ∧ 0 < b)) ∧
        (j = i → (Fam.bipartite a b).dd i j = some 0) ∧ (j ≠ i → ¬ (i < a ↔ j < a) → (Fam.bipartite a b).dd i j = some 1) ∧ (j ≠ i → (i < a ↔ j < a) → 0 < a → 0 < b → (Fam.bipartite a b).dd i j = some 2) := by
      intro j
      rw [hd]
      by_cases c1 : j = i
      · rw [if_pos c1]
        refine ⟨fun k h => .inl ⟨(Option.some.inj h).symm, c1⟩, fun _ => rfl, fun h => absurd c1 h, fun h => absurd c1 h⟩
      · rw [if_neg c1]
        by_cases c2 : (i < a ↔ j < a)
        · have c2' : ¬ (decide (i < a) ≠ decide (j < a)) := fun h => h (decide_eq_decide.mpr c2)
          rw [if_neg c2']
          by_cases c3 : 0 < min a b
          · rw [if_pos c3]
            exact ⟨fun k h => .inr (.inr ⟨(Option.some.inj h).symm, c1, c2, by omega, by omega⟩), fun h => absurd h c1, fun _ h => absurd c2 h, fun _ _ _ _ => rfl⟩
          · rw [if_neg c3]
            exact ⟨fun k h => (by cases h), fun h => absurd h c1, fun _ h => absurd c2 h, fun _ _ h1 h2 => absurd (show 0 < min a b by omega) c3⟩
        · have c2' : decide (i < a) ≠ decide (j < a) := fun h => c2 (decide_eq_decide.mp h)
          rw [if_pos c2']
          exact ⟨fun k h => .inr (.inl ⟨(Option.some.inj h).symm, c1, c2⟩), fun h => absurd h c1, fun _ _ => rfl, fun _ h => absurd h c2⟩
    refine ⟨(key i).2.1 rfl, fun x hx e => ?_, fun x y hx hy hA k hk => ?_, fun y hy k hk => ?_, fun x hx k hk => ?_⟩
    · rcases (key x).1 0 e with h | h | h
      · exact h.2
      · omega
      · omega
    · have hA' := (hm x y).mp hA
      by_cases c1 : y = i
      · exact ⟨0, (key y).2.1 c1, by omega⟩
      · by_cases c2 : (i < a ↔ y < a)
        · refine ⟨2, (key y).2.2.2 c1 c2 (by omega) (by omega), ?_⟩
          rcases (key x).1 k hk with h | h | h
          · omega
          · omega
          · omega
        · exact ⟨1, (key y).2.2.1 c1 c2, by omega⟩
    · have hy' : y < a + b := hy
      rcases (key y).1 (k + 1) hk with h | h | h
      · omega
      · obtain rfl : k = 0 := by omega
        exact ⟨i, hi, (hm i y).mpr (by omega), (key i).2.1 rfl⟩
      · obtain rfl : k = 1 := by omega
        by_cases c1 : i < a
        · exact ⟨a, by show a < a + b; omega, (hm a y).mpr (by omega), (key a).2.2.1 (by omega) (by omega)⟩
        · exact ⟨0, by show 0 < a + b; omega, (hm 0 y).mpr (by omega), (key 0).2.2.1 (by omega) (by omega)⟩
    · show k ≤ a + b
      rcases (key x).1 k hk with h | h | h
      · omega
      · omega
      · omega
theorem range_all {m : Nat} {f : Nat → Bool} (h : (List.range m).all f = true) {n : Nat} (hn : n < m) : f n = true := List.all_eq_true.mp h n (List.mem_range.mpr hn)
theorem Fam.cd (F : Fam) (h : F.fine) (hl : F.law) : F.Cd := by
  cases F with
  | petersen => cases hl
  | ring n =>
    have h' : 3 ≤ n ∧ n ≤ 20 := h
    have q := range_all chk_ring (n := n) (by omega)
    exact Fam.cert_of ((Bool.or_eq_true_iff.mp q).resolve_left fun z => by have := Nat.le_of_ble_eq_true z; omega)
  | path n =>
    have h' : n ≤ 20 := h
    exact Fam.cert_of (range_all chk_path (n := n) (by omega))
  | complete n => exact cd_complete h
  | bipartite a b => exact cd_bipartite h.1 h.2
  | wheel n =>
    have h' : 3 ≤ n ∧ n ≤ 19 := h
    have q := range_all chk_wheel (n := n) (by omega)
    exact Fam.cert_of ((Bool.or_eq_true_iff.mp q).resolve_left fun z => by have := Nat.le_of_ble_eq_true z; omega)
  | star n =>
    have h' : n ≤ 19 := h
    exact Fam.cert_of (range_all chk_star (n := n) (by omega))
  | grid r w =>
    have h' : 1 ≤ r ∧ r ≤ 4 ∧ 1 ≤ w ∧ w ≤ 5 := h
    have q := range_all (range_all chk_grid (n := r) (by omega)) (n := w) (by omega)
    rcases Bool.or_eq_true_iff.mp q with z | z
    · have := Nat.le_of_ble_eq_true z; omega
    · exact Fam.cert_of ((Bool.or_eq_true_iff.mp z).resolve_left fun z => by have := Nat.le_of_ble_eq_true z; omega)
  | prism n =>
    have h' : 3 ≤ n ∧ n ≤ 10 := h
    have q := range_all chk_prism (n := n) (by omega)
    exact Fam.cert_of ((Bool.or_eq_true_iff.mp q).resolve_left fun z => by have := Nat.le_of_ble_eq_true z; omega)
  | moebius n =>
    have h' : 2 ≤ n ∧ n ≤ 10 := h
    have q := range_all chk_moebius (n := n) (by omega)
    exact Fam.cert_of ((Bool.or_eq_true_iff.mp q).resolve_left fun z => by have := Nat.le_of_ble_eq_true z; omega)
  | cube n =>
    have h' : n ≤ 4 := h
    exact Fam.cert_of (range_all chk_cube (n := n) (by omega))
end VMP

/-! K70_B6: a family told by other numbers -/
namespace VMP
open PySem PySem.Spec PyProof.Rows L2 VM
theorem Cert.rel {n i : Nat} {A : Adj} {dd : Nat → Option Nat} {L : List Nat} (C : Cert n A i dd) (h : Ord n L) (hi : i < n) : Cert n (rel L A) (L.getD i 0) fun x => dd (L.idxOf x) := by
  refine ⟨?_, fun x hx e => ?_, fun x y hx hy ha k hk => ?_, fun y hy k hk => ?_, fun x hx k hk => ?_⟩
  · show dd (L.idxOf (L.getD i 0)) = _
    rw [(h.get hi).2.2]
    exact C.z
  · have := C.one _ (h.idx hx).1 e
    rw [← this, (h.idx hx).2]
  · exact C.up _ _ (h.idx hx).1 (h.idx hy).1 ha k hk
  · obtain ⟨x, h1, h2, h3⟩ := C.dn _ (h.idx hy).1 k hk
    obtain ⟨_, t, e⟩ := h.get h1
    refine ⟨L.getD x 0, t, ?_, ?_⟩
    · unfold VM.rel
      rw [e]
      exact h2
    · show dd (L.idxOf (L.getD x 0)) = _
      rw [e]
      exact h3
  · exact C.lt _ (h.idx hx).1 k hk
theorem Cert.reach {n i : Nat} {A : Adj} {dd : Nat → Option Nat} (C : Cert n A i dd) (g : Gr A) (hi : i < n) {y : Nat} (hy : y < n) : Reach A (List.range n) i y ↔ (dd y).isSome = true := by
  constructor
  · intro h
    have key : ∃ k, dd y = some k := by
      clear hy
      induction h with
      | refl => exact ⟨0, C.z⟩
      | step hu hz ha ih =>
        obtain ⟨k, hk⟩ := ih
        have hu' := List.mem_range.mp (hu.mem (List.mem_range.mpr hi))
        obtain ⟨m, hm, _⟩ := C.up _ _ hu' (List.mem_range.mp hz) ha k hk
        exact ⟨m, hm⟩
    obtain ⟨k, hk⟩ := key
    rw [hk]
    rfl
  · intro h
    obtain ⟨k, hk⟩ := Option.isSome_iff_exists.mp h
    induction k generalizing y with
    | zero =>
      rw [C.one y hy hk]
      exact .refl
    | succ k ih =>
      obtain ⟨x, h1, h2, h3⟩ := C.dn y hy k hk
      exact (ih h1 (by rw [h3]; rfl) h3).step (List.mem_range.mpr hy) h2
theorem dd_same {F : Fam} {i : Nat} : F.dd i i = some 0 := if_pos (Nat.beq_refl i)
theorem dd_ne {F : Fam} {i j : Nat} (h : ¬ j = i) : F.dd i j = F.due i j := if_neg fun z => h (Nat.eq_of_beq_eq_true z)
/-- all hangs together -/
def Fam.whole (F : Fam) : Bool := decide (0 < F.pts) && (List.range F.pts).all fun i => (List.range F.pts).all fun j => (F.dd i j).isSome
theorem whole_iff {F : Fam} (c : F.Cd) {L : List Nat} (h : Ord F.pts L) : decide ((pcs (rel L (adjL F.prs)) (List.range F.pts)).length = 1) = F.whole := by
  have g := okL_gr c.ok
  have up := List.pairwise_lt_range (n := F.pts)
  rw [Bool.eq_iff_iff, decide_eq_true_eq]
  unfold Fam.whole
  rw [Bool.and_eq_true, decide_eq_true_eq, List.all_eq_true]
  constructor
  · intro h1
    have hp : 0 < F.pts := by
      rcases Nat.eq_zero_or_pos F.pts with e | e
      · rw [e] at h1
        have := pcs_len (A := rel L (adjL F.prs)) (M := List.range 0)
        rw [List.length_range] at this
        omega
      · exact e
    refine ⟨hp, fun i hi => List.all_eq_true.mpr fun j hj => ?_⟩
    have hi' := List.mem_range.mp hi
    have hj' := List.mem_range.mp hj
    have C := (c.cert i hi').rel h hi'
    have hr := of_one up (g.rel L) h1 (List.mem_range.mpr (h.get hi').2.1) (List.mem_range.mpr (h.get hj').2.1)
    have := (C.reach (g.rel L) (h.get hi').2.1 (h.get hj').2.1).mp hr
    rwa [(h.get hj').2.2] at this
  · rintro ⟨hp, hall⟩
    refine one_of up (g.rel L) (by intro e; have := congrArg List.length e; rw [List.length_range] at this; simp at this; omega) fun x hx y hy => ?_
    have hx' := List.mem_range.mp hx
    have hy' := List.mem_range.mp hy
    obtain ⟨i1, i2⟩ := h.idx hx'
    obtain ⟨j1, j2⟩ := h.idx hy'
    have C := (c.cert _ i1).rel h i1
    rw [i2] at C
    exact (C.reach (g.rel L) hx' hy').mpr (List.all_eq_true.mp (hall _ (List.mem_range.mpr i1)) _ (List.mem_range.mpr j1))
/-! ### lists of distances -/
def pO : Option Nat → PyData
  | some k => .int (k : Int)
  | none => .none
section
variable {S : Store} {Q : D → Store → Prop}
theorem pyL_opt {m : Nat} : ∀ {L : List (Option Nat)}, pyL (D.py S (m + 1)) (L.map optD) = some (L.map pO)
  | [] => rfl
  | none :: L => by rw [List.map_cons, pyL, pyL_opt]; rfl
  | some k :: L => by rw [List.map_cons, pyL, pyL_opt]; rfl
theorem eqv_optL : ∀ {L : List (Option Nat)}, PyData.eqvAll (L.map pO) (L.map pO) = true
  | [] => rfl
  | none :: L => by
    rw [List.map_cons, PyData.eqvAll, eqv_optL]
    rfl
  | some k :: L => by
    rw [List.map_cons, PyData.eqvAll, eqv_optL]
    simp [pO, PyData.eqv]
theorem ok_neOpt {l m : Nat} {L : List (Option Nat)} (h : S[l]? = some (.lst (L.map optD))) (h2 : S[m]? = some (.lst (L.map optD))) : Ok (neM (.lst l) (.lst m)) S Q ↔ Q (.bl false) S := by
  have e : ∀ k, S[k]? = some (.lst (L.map optD)) → D.py S 9 (.lst k) = some (.list (L.map pO)) := fun k hk => by
    show (match S[k]? with
      | some (.lst ds) => (pyL (D.py S 8) ds).map PyData.list
      | _ => none) = _
    rw [hk]
    dsimp only
    rw [pyL_opt]
    rfl
  refine ok_iff ?_
  show (match D.py S 9 (.lst l), D.py S 9 (.lst m) with
    | some p, some q => some (D.bl (!PyData.eqv p q), S)
    | _, _ => none) = _
  rw [e l h, e m h2]
  dsimp only
  rw [PyData.eqv, eqv_optL]
  rfl
theorem ok_ninNon {l : Nat} {L : List (Option Nat)} (h : S[l]? = some (.lst (L.map optD))) : Ok (ninA .non (.lst l)) S Q ↔ Q (.bl (L.all fun o => o.isSome)) S := by
  have hh : hasM .non (L.map optD) S = some (!(L.all fun o => o.isSome)) := by
    unfold hasM
    have e1 : D.py S 9 .non = some .none := rfl
    rw [e1, pyL_opt]
    dsimp only
    congr 1
    clear h
    induction L with
    | nil => rfl
    | cons o L ih =>
      rw [List.map_cons, List.any_cons, List.all_cons, ih]
      cases o <;> rfl
  have e := (ok_inOf (Q := Q) (seq_lst h) hh).2
  rw [Bool.not_not] at e
  exact e
theorem family_holds_ok {l c : Nat} {B : Int} (F : Fam) (hF : F.fine) (hl : F.law) (st : Stt l c B S) (hB : B < 100000000) (hQ : ∀ S', Stt l c (B + 20) S' → Keep [l] S S' → Q (.bl true) S') : Ok (f__law_family_holds [.lst l, .str F.word, .tup (natD F.nums)]) S Q := by
  have hlim : lim = 1000000 := rfl
  have cd := F.cd hF hl
  have hn := F.pts_le hF
  have g := okL_gr cd.ok
  unfold f__law_family_holds b__law_family_holds
  simp [ok_mFun, ok_sFor]
  refine fam_ok F hF cd.ok cd.len fun S1 k1 => ?_
  simp [gD]
  refine order_ok (st.keep k1) hn hB fun L S2 hL st2 k2 => ?_
  simp [hlim]
  refine relabelled_ok g hL hn fun S3 k3 => ?_
  refine near_tup_ok (g.rel L) hn fun S4 k4 => ?_
  simp [gD]
  refine ⟨by omega, ?_⟩
  generalize hrd : D.tup [D.int (F.pts : Int), D.tup (VM.prD (EL F.pts (rel L (adjL F.prs))))] = gm
  have hgm : gm = gD F.pts (rel L (adjL F.prs)) := hrd.symm
  generalize hgr : D.tup [D.int (F.pts : Int), D.tup (VM.prD (EL F.pts (adjL F.prs)))] = g0
  have kS : Keep [l] S S4 := (Keep.all k1).trans (k2.trans (Keep.all (k3.trans k4)))
  have st4 := st2.keep (k3.trans k4)
  refine ok_for' (fun pre ρ S5 => ∃ y8 y9 y10, ρ = [some (D.lst l), some (D.str F.word), some (D.tup (natD F.nums)), some g0, some (D.tup (natD L)), some (D.bl (decide (0 < F.pts) && (List.range pre.length).all fun i => (List.range F.pts).all fun j => (F.dd i j).isSome)), some gm,
    some (D.tup (tupsD ((List.range F.pts).map fun v => nbr F.pts (rel L (adjL F.prs)) v))), y8, y9, y10, none] ∧ Keep [] S4 S5) ?_ (fun _ _ _ _ => live_nil) ?_ ?_
  · exact ⟨none, none, none, by simp, Keep.refl⟩
  · rintro pre d post ρ S5 N Q5 e ⟨y8, y9, y10, rfl, k5⟩ hN
    obtain ⟨hi, rfl⟩ := rowD_split' e
    generalize hii : pre.length = i at *
    have hsucc : (decide (0 < F.pts) && (List.range (i + 1)).all fun i => (List.range F.pts).all fun j => (F.dd i j).isSome) = ((decide (0 < F.pts) && (List.range i).all fun i => (List.range F.pts).all fun j => (F.dd i j).isSome) && (List.range F.pts).all fun j => (F.dd i j).isSome) := by
      rw [List.range_succ, List.all_append, Bool.and_assoc]
      simp
    generalize hW : (decide (0 < F.pts) && (List.range i).all fun i => (List.range F.pts).all fun j => (F.dd i j).isSome) = W at hsucc ⊢
    have gi := VM.atI_nat (natD_get (hL.get hi).1)
    have C := (cd.cert i hi).rel hL hi
    simp [gi]
    refine far_ok (g.rel L) hn (hL.get hi).2.1 C fun a S6 h6 k6 => ?_
    rw [← hgr]
    rw [ok_mComp]
    simp
    refine ⟨by omega, ?_⟩
    refine ok_comp (fun pre acc S7 => acc = (List.range pre.length).map (fun j => optD (F.dd i j)) ∧ Keep [] S6 S7) ⟨rfl, Keep.refl⟩ (fun _ _ _ _ => live_nil) ?_ ?_
    · rintro pre d post acc S7 e ⟨rfl, k7⟩
      obtain ⟨hj, rfl⟩ := rowD_split' e
      have fin : ∀ S8, Keep [] S7 S8 → List.map (fun j => optD (F.dd i j)) (List.range pre.length) ++ [optD (F.dd i pre.length)] = List.map (fun j => optD (F.dd i j)) (List.range (pre ++ [D.int ↑pre.length]).length) ∧ Keep [] S6 S8 := fun S8 k8 =>
        ⟨by rw [List.length_append, List.length_singleton, List.range_succ, List.map_append]; rfl, k7.trans k8⟩
      simp only [ok_gNm, List.set_cons_zero, List.set_cons_succ, ok_tTrue, if_true]
      by_cases c : pre.length = i
      · have q := fin S7 Keep.refl
        have h0 : F.dd i pre.length = some 0 := by rw [c]; exact dd_same
        rw [h0] at q
        simp [c]
        simpa [c, optD] using q
      · simp
        refine .inl ⟨by omega, ?_⟩
        refine due_ok F hF hl hi hj fun S8 k8 => ?_
        have q := fin S8 k8
        rw [dd_ne c] at q
        simpa using q
    · rintro acc S7 ⟨rfl, k7⟩
      rw [rowD_len]
      simp
      refine ⟨by omega, ?_⟩
      have h6' := (k7.app (T := [Ob.lst (List.map (fun j => optD (F.dd i j)) (List.range F.pts))])).at_ a (by simp) _ h6
      have h7 := get_last (S := S7) (o := Ob.lst (List.map (fun j => optD (F.dd i j)) (List.range F.pts)))
      have k8 : Keep [] S4 (S7 ++ [Ob.lst (List.map (fun j => optD (F.dd i j)) (List.range F.pts))]) := k5.trans (k6.trans (k7.trans keep_app))
      generalize S7.length = b7 at h7 ⊢
      generalize S7 ++ [Ob.lst (List.map (fun j => optD (F.dd i j)) (List.range F.pts))] = S8 at h6' h7 k8 ⊢
      refine ok_compPick (L := List.range F.pts) (f := fun x : Nat => D.int (x : Int)) (p := fun _ => true) (h := fun j => optD (F.dd i j)) (lv := []) ((List.range F.pts).map fun j => optD (F.dd i j)) ?_ live_nil ?_ (by rw [List.filter_eq_self.mpr fun _ _ => rfl]) (by rw [List.length_map, List.length_range]; omega) ?_
      · simp [rowD_nat]
        exact ⟨by omega, rfl⟩
      · intro j hj N8 hN8
        have hj' := List.mem_range.mp hj
        obtain ⟨e1, e2, e3⟩ := hL.get hj'
        have gj := VM.atI_nat (natD_get e1)
        have ga : atI (List.map (fun x => optD (F.dd i (List.idxOf x L))) (List.range F.pts)) ((L.getD j 0 : Nat) : Int) = some (optD (F.dd i j)) := by
          refine VM.atI_nat ?_
          rw [List.getElem?_map, List.getElem?_range e2]
          show some (optD (F.dd i (L.idxOf (L.getD j 0)))) = _
          rw [e3]
        generalize L.getD j 0 = z at gj ga
        simp [gj, h6', ga]
        simpa using hN8
      · have h9 := get_last (S := S8) (o := Ob.lst (List.map (fun j => optD (F.dd i j)) (List.range F.pts)))
        have h7' := get_app (T := [Ob.lst (List.map (fun j => optD (F.dd i j)) (List.range F.pts))]) h7
        have k9 : Keep [] S4 (S8 ++ [Ob.lst (List.map (fun j => optD (F.dd i j)) (List.range F.pts))]) := k8.trans keep_app
        have em : List.map (fun j => optD (F.dd i j)) (List.range F.pts) = ((List.range F.pts).map (F.dd i)).map optD := by rw [List.map_map]; rfl
        generalize S8.length = b8 at h9 ⊢
        generalize S8 ++ [Ob.lst (List.map (fun j => optD (F.dd i j)) (List.range F.pts))] = S9 at h7' h9 k9 ⊢
        rw [em] at h7' h9
        rw [ok_neOpt h9 h7']
        simp
        have nx : ∀ y, y = D.bl (decide (0 < F.pts) && (List.range (i + 1)).all fun i => (List.range F.pts).all fun j => (F.dd i j).isSome) → N [some (D.lst l), some (D.str F.word), some (D.tup (natD F.nums)), some g0, some (D.tup (natD L)), some y, some gm, some (D.tup (tupsD ((List.range F.pts).map fun v => nbr F.pts (rel L (adjL F.prs)) v))), some (D.int (i : Int)), some (D.lst a), some (D.lst b7), none] S9 := fun y hy =>
          hN _ _ ⟨some (D.int (i : Int)), some (D.lst a), some (D.lst b7), by subst hy; simp [hii], k9⟩
        rw [← hgr] at nx
        rw [hsucc] at nx
        cases W with
        | false =>
          refine .inl ⟨rfl, ?_⟩
          exact nx _ (by rw [Bool.false_and])
        | true =>
          refine .inr ⟨rfl, ?_⟩
          rw [ok_ninNon h7']
          refine nx _ ?_
          rw [Bool.true_and, List.all_map]
          rfl
  · rintro ρ S5 ⟨y8, y9, y10, rfl, k5⟩
    rw [rowD_len]
    have hw : (decide (0 < F.pts) && (List.range F.pts).all fun i => (List.range F.pts).all fun j => (F.dd i j).isSome) = F.whole := rfl
    rw [hw]
    simp
    rw [← hgr]
    simp
    rw [rowD_nat, hgm]
    refine ⟨by unfold okRg; omega, by rw [natD_length, List.length_range]; omega, ?_⟩
    refine hangs_ok (g.rel L) (pts_range _) hn fun S6 k6 => ?_
    rw [whole_iff cd hL, ok_eqB]
    refine .inr ⟨by simp, ?_⟩
    refine pieces_of_ok (g.rel L) hn fun S7 k7 => ?_
    have hlen : (tupsD (pcs (rel L (adjL F.prs)) (List.range F.pts))).length = (pcs (rel L (adjL F.prs)) (List.range F.pts)).length := by unfold tupsD; rw [List.length_map]
    simp
    rw [hlen]
    have e1 : decide (((pcs (rel L (adjL F.prs)) (List.range F.pts)).length : Int) = 1) = F.whole := by
      rw [← whole_iff cd hL]
      exact decide_eq_decide.mpr (by omega)
    rw [e1, ok_eqB]
    simp
    have kk := k5.trans (k6.trans k7)
    exact hQ S7 ((st4.keep kk).mono (by omega)) (kS.trans (Keep.all kk))
end
end VMP

/-! K70_B7: Petersen's graph -/
namespace VMP
open PySem PySem.Spec PyProof.Rows L2 VM
theorem ord_map {n : Nat} {L : List Nat} (h : Ord n L) : L.map (fun x => L.idxOf x) = List.range n := by
  refine List.ext_getElem? fun i => ?_
  by_cases hi : i < n
  · obtain ⟨h1, _, h3⟩ := h.get hi
    rw [List.getElem?_map, h1, List.getElem?_range hi]
    show some (L.idxOf (L.getD i 0)) = _
    rw [h3]
  · rw [List.getElem?_eq_none (by rw [List.length_map, h.len]; omega), List.getElem?_eq_none (by rw [List.length_range]; omega)]
theorem ord_perm {n : Nat} {L : List Nat} (h : Ord n L) : L.Perm (List.range n) := by
  rw [← h.sort]
  exact (List.mergeSort_perm L leN).symm
theorem count_rel {n : Nat} {L : List Nat} (h : Ord n L) (P : Nat → Bool) : ((List.range n).filter fun z => P (L.idxOf z)).length = ((List.range n).filter P).length := by
  have e1 : ((List.range n).filter fun z => P (L.idxOf z)).length = (L.filter fun z => P (L.idxOf z)).length := ((ord_perm h).filter _).length_eq.symm
  rw [e1, ← ord_map h]
  rw [List.filter_map, List.length_map]
  rfl
abbrev pA : Adj := adjL Fam.petersen.prs
theorem p_ok : okL 10 Fam.petersen.prs = true := by decide +kernel
theorem p_three : ((List.range 10).all fun a => Nat.beq ((List.range 10).filter fun z => pA a z).length 3) = true := by decide +kernel
theorem p_two : ((List.range 10).all fun a => (List.range 10).all fun b => Nat.beq a b || Nat.beq ((List.range 10).filter fun z => pA a z && pA b z).length (if pA a b = true then 0 else 1)) = true := by decide +kernel
section
variable {S : Store} {Q : D → Store → Prop}
theorem near_common {L : List Nat} (h : Ord 10 L) {i j : Nat} (hi : i < 10) (hj : j < 10) (hij : i ≠ j) : ((nbr 10 (rel L pA) i).filter fun z => decide (z ∈ nbr 10 (rel L pA) j)).length = if j ∈ nbr 10 (rel L pA) i then 0 else 1 := by
  have e1 : ((nbr 10 (rel L pA) i).filter fun z => decide (z ∈ nbr 10 (rel L pA) j)) = (List.range 10).filter fun z => pA (L.idxOf i) (L.idxOf z) && pA (L.idxOf j) (L.idxOf z) := by
    unfold nbr
    rw [List.filter_filter]
    refine List.filter_congr fun z hz => ?_
    have hz' := List.mem_range.mp hz
    rw [Bool.and_comm]
    unfold VM.rel
    congr 1
    rw [Bool.eq_iff_iff, decide_eq_true_eq, List.mem_filter]
    exact ⟨fun q => q.2, fun q => ⟨hz, q⟩⟩
  obtain ⟨a1, a2⟩ := h.idx hi
  obtain ⟨b1, b2⟩ := h.idx hj
  rw [e1, count_rel h fun z => pA (L.idxOf i) z && pA (L.idxOf j) z]
  have q := range_all (range_all p_two a1) b1
  rcases Bool.or_eq_true_iff.mp q with q | q
  · have := Nat.eq_of_beq_eq_true q
    rw [this, b2] at a2
    exact absurd a2.symm hij
  · have q2 := Nat.eq_of_beq_eq_true q
    rw [q2]
    have : (j ∈ nbr 10 (rel L pA) i) ↔ pA (L.idxOf i) (L.idxOf j) = true := by
      rw [mem_nbr]
      exact ⟨fun q => q.2, fun q => ⟨hj, q⟩⟩
    by_cases c : j ∈ nbr 10 (rel L pA) i
    · rw [if_pos c, if_pos (this.mp c)]
    · rw [if_neg c, if_neg fun q => c (this.mpr q)]
theorem near_three {L : List Nat} (h : Ord 10 L) {i : Nat} (hi : i < 10) : (nbr 10 (rel L pA) i).length = 3 := by
  have q := Nat.eq_of_beq_eq_true (range_all p_three (h.idx hi).1)
  rw [← q]
  exact count_rel h fun z => pA (L.idxOf i) z
theorem ok_inNT2 {x : Nat} {L : List Nat} : Ok (inA (.int (x : Int)) (.tup (natD L))) S Q ↔ Q (.bl (decide (x ∈ L))) S := (ok_inOf rfl has_nat).1
theorem petersen_ok {l c : Nat} {B : Int} (st : Stt l c B S) (hB : B < 100000000) (hQ : ∀ S', Q (.bl true) S') : Ok (f__law_petersen_holds [.lst l]) S Q := by
  have hlim : lim = 1000000 := rfl
  have g := okL_gr p_ok
  unfold f__law_petersen_holds b__law_petersen_holds
  simp [ok_mFun, ok_sFor]
  refine fam_ok .petersen trivial p_ok (by decide +kernel) fun S1 k1 => ?_
  refine order_ok (n := 10) (st.keep k1) (by omega) hB fun L S2 hL st2 k2 => ?_
  refine relabelled_ok g hL (by decide) fun S3 k3 => ?_
  refine near_tup_ok (g.rel L) (by decide) fun S4 k4 => ?_
  have row : ∀ v : Nat, v < 10 → atI (tupsD ((List.range 10).map fun v => nbr 10 (rel L pA) v)) (v : Int) = some (.tup (natD (nbr 10 (rel L pA) v))) := fun v hv => by
    refine VM.atI_nat ?_
    unfold tupsD
    rw [List.getElem?_map, List.getElem?_map, List.getElem?_range hv]
    rfl
  have hrl : (tupsD ((List.range 10).map fun v => nbr 10 (rel L pA) v)).length = 10 := by unfold tupsD; rw [List.length_map, List.length_map, List.length_range]
  refine ok_for' (fun pre ρ S5 => ∃ y2 y3 y4, ρ = [some (D.lst l), some (D.tup (tupsD ((List.range 10).map fun v => nbr 10 (rel L pA) v))), y2, y3, y4, none]) ?_ (fun _ _ _ _ => live_nil) ?_ ?_
  · exact ⟨none, none, none, rfl⟩
  · rintro pre d post ρ S5 N Q5 e ⟨y2, y3, y4, rfl⟩ hN
    obtain ⟨hi, rfl⟩ := rowD_split' (n := 10) e
    generalize pre.length = i at hi ⊢
    simp [ok_sFor]
    refine ⟨by omega, ?_⟩
    refine ok_for' (fun pre ρ S5 => ∃ y3 y4, ρ = [some (D.lst l), some (D.tup (tupsD ((List.range 10).map fun v => nbr 10 (rel L pA) v))), some (D.int (i : Int)), y3, y4, none]) ⟨_, _, rfl⟩ (fun _ _ _ _ => live_nil) ?_ ?_
    · rintro pre d post ρ S6 N6 Q6 e ⟨y3, y4, rfl⟩ hN6
      obtain ⟨hj, rfl⟩ := rowD_split' e
      generalize pre.length = j at hj ⊢
      simp
      have hj10 : j < 10 := by omega
      refine ok_compPick (L := nbr 10 (rel L pA) i) (f := fun x : Nat => D.int (x : Int)) (p := fun z => decide (z ∈ nbr 10 (rel L pA) j)) (h := fun x : Nat => D.int (x : Int)) (lv := []) (natD ((nbr 10 (rel L pA) i).filter fun z => decide (z ∈ nbr 10 (rel L pA) j))) ?_ live_nil ?_ rfl ?_ ?_
      · simp [row i hi]
        rfl
      · intro x hx M hM
        simp [row j hj10, ok_inNT2]
        by_cases c1 : x ∈ nbr 10 (rel L pA) j
        · simp only [decide_eq_true c1, if_true] at hM
          exact .inr ⟨c1, hM⟩
        · rw [decide_eq_false c1] at hM
          exact .inl ⟨c1, hM⟩
      · have a1 := List.length_filter_le (fun z => decide (z ∈ nbr 10 (rel L pA) j)) (nbr 10 (rel L pA) i)
        have a2 := nbr_len 10 (rel L pA) i
        rw [natD_length]
        omega
      · have hc := near_common hL hi hj10 (by omega)
        rw [ok_lenLs]
        refine ⟨_, get_last, _, row i hi, ?_⟩
        rw [ok_inNT2, natD_length, hc]
        by_cases cc : j ∈ nbr 10 (rel L pA) i
        · rw [if_pos cc]
          refine .inr ⟨by rw [decide_eq_true cc], ?_⟩
          simp
          exact hN6 _ _ ⟨_, _, rfl⟩
        · rw [if_neg cc]
          refine .inl ⟨by rw [decide_eq_false cc], ?_⟩
          simp
          exact hN6 _ _ ⟨_, _, rfl⟩
    · rintro ρ S6 ⟨y3, y4, rfl⟩
      simp
      exact hN _ _ ⟨_, _, _, rfl⟩
  · rintro ρ S5 ⟨y2, y3, y4, rfl⟩
    simp
    refine ok_compPick (L := (List.range 10).map fun v => nbr 10 (rel L pA) v) (f := fun R => D.tup (natD R)) (p := fun _ => false) (h := fun R => D.tup (natD R)) (lv := []) [] ?_ live_nil ?_ (by simp) (by simp) ?_
    · simp
      rfl
    · intro R hR M hM
      obtain ⟨v, hv, rfl⟩ := List.mem_map.mp hR
      have h3 := near_three hL (List.mem_range.mp hv)
      simp [h3]
      simpa using hM
    · have e0 : (S5 ++ [Ob.lst []] ++ [Ob.lst []])[S5.length]? = some (.lst (natD [])) := get_app get_last
      have e1 : (S5 ++ [Ob.lst []] ++ [Ob.lst []])[(S5 ++ [Ob.lst []]).length]? = some (.lst (natD [])) := get_last
      rw [ok_eqLN e0 e1]
      simp
      exact hQ _
end
end VMP

/-! K70_B8: the bounds that are drawn between; the law -/
namespace VMP
open PySem PySem.Spec PyProof.Rows L2 VM
/-- words, least and greatest numbers -/
def WL : List (Str × List Nat × List Nat) := [("ring", [3], [20]), ("path", [0], [20]), ("complete", [0], [20]), ("bipartite", [0, 0], [10, 10]), ("wheel", [3], [19]), ("star", [0], [19]), ("grid", [1, 1], [4, 5]), ("prism", [3], [10]), ("moebius", [2], [10]), ("cube", [0], [4])]
def KL : KV' := WL.map fun w => (.text w.1, .tup (natD w.2.1))
def K6 : KV' := (WL.take 6).map fun w => (.text w.1, .tup (natD w.2.1))
def KM : KV' := [(.text "bipartite", .tup (natD [10, 10])), (.text "wheel", .tup (natD [19])), (.text "star", .tup (natD [19])), (.text "grid", .tup (natD [4, 5])), (.text "prism", .tup (natD [10])), (.text "moebius", .tup (natD [10])), (.text "cube", .tup (natD [4]))]
section
variable {S : Store} {Q : D → Store → Prop}
theorem put6 : putAll [(.str "ring", .tup [.int 3]), (.str "path", .tup [.int 0]), (.str "complete", .tup [.int 0]), (.str "bipartite", .tup [.int 0, .int 0]), (.str "wheel", .tup [.int 3]), (.str "star", .tup [.int 0])] [] S = some (K6, S) := by kernel_rfl
theorem put7 : putAll [(.str "bipartite", .tup [.int 10, .int 10]), (.str "wheel", .tup [.int 19]), (.str "star", .tup [.int 19]), (.str "grid", .tup [.int 4, .int 5]), (.str "prism", .tup [.int 10]), (.str "moebius", .tup [.int 10]), (.str "cube", .tup [.int 4])] [] S = some (KM, S) := by kernel_rfl
theorem prs10 : pairsOf (itD K6 ++ [D.tup [D.str "grid", D.tup [D.int 1, D.int 1]], D.tup [D.str "prism", D.tup [D.int 3]], D.tup [D.str "moebius", D.tup [D.int 2]], D.tup [D.str "cube", D.tup [D.int 0]]]) = some KL := by kernel_rfl
theorem ok_items {l : Nat} {kvs : KV'} (h : S[l]? = some (.dct kvs)) : Ok (itemsM (.dct l)) S Q ↔ Q (.lst S.length) (S ++ [.lst (itD kvs)]) := by
  refine ok_iff ?_
  have e : dictOf S (.dct l) = some kvs := by
    unfold dictOf
    simp only [h]
  unfold itemsM
  rw [e]
theorem ok_fDict {l : Nat} {ds : List D} {kvs : KV'} (h : S[l]? = some (.lst ds)) (hk : pairsOf ds = some kvs) (ha : alike kvs = true) (hz : ds.length ≤ lim) : Ok (fDict [.lst l]) S Q ↔ Q (.dct S.length) (S ++ [.dct (dputs [] kvs)]) := by
  refine ok_iff ?_
  show (match S[l]? with
    | some (.lst ds) => match pairsOf ds with
      | some kvs => if alike kvs = true ∧ ds.length ≤ lim then some (D.dct S.length, S ++ [Ob.dct (dputs [] kvs)]) else none
      | none => none
    | _ => none) = _
  rw [h]
  dsimp only
  rw [hk]
  dsimp only
  rw [if_pos ⟨ha, hz⟩]
theorem least_ok (hQ : ∀ l S', S'[l]? = some (.dct KL) → Keep [] S S' → Q (.dct l) S') : Ok (f__law_least []) S Q := by
  have hlim : lim = 1000000 := rfl
  unfold f__law_least b__law_least
  simp [ok_mFun, hlim, -ok_putAllCons]
  rw [ok_iff put6]
  rw [ok_items get_last]
  simp [hlim]
  generalize hT : [D.tup [D.str "grid", D.tup [D.int 1, D.int 1]], D.tup [D.str "prism", D.tup [D.int 3]], D.tup [D.str "moebius", D.tup [D.int 2]], D.tup [D.str "cube", D.tup [D.int 0]]] = T
  have h1 : (S ++ [Ob.dct K6, Ob.lst (itD K6), Ob.lst T])[S.length + 1]? = some (.lst (itD K6)) := by rw [List.getElem?_append_right (by omega), Nat.add_sub_cancel_left]; rfl
  have h2 : (S ++ [Ob.dct K6, Ob.lst (itD K6), Ob.lst T])[S.length + 2]? = some (.lst T) := by rw [List.getElem?_append_right (by omega), Nat.add_sub_cancel_left]; rfl
  have k1 : Keep [] S (S ++ [Ob.dct K6, Ob.lst (itD K6), Ob.lst T]) := keep_app
  rw [ok_addL h1 h2]
  have hp : pairsOf (itD K6 ++ T) = some KL := by rw [← hT]; exact prs10
  have hl : (itD K6 ++ T).length = 10 := by rw [← hT]; rfl
  refine ⟨by rw [hl, hlim]; decide, ?_⟩
  rw [ok_fDict get_last hp (by decide +kernel) (by rw [hl, hlim]; decide)]
  have he : dputs [] KL = KL := by kernel_rfl
  rw [he]
  exact hQ _ _ get_last ((k1.trans keep_app).trans keep_app)
theorem most_ok {w : Str} (hw : Ly w) (hQ : ∀ S', Keep [] S S' → Q ((dget KM (.text w)).getD (.tup (natD [20]))) S') : Ok (f__law_most [.str w]) S Q := by
  have hlim : lim = 1000000 := rfl
  unfold f__law_most b__law_most
  simp [ok_mFun, hlim, -ok_putAllCons]
  rw [ok_iff put7]
  refine ⟨?_, ?_⟩
  · unfold isDct dictOf
    simp
  · rw [ok_getD get_last rfl (by kernel_rfl)]
    exact hQ _ keep_app
/-- the words, sorted: each is one of ours -/
theorem words_sorted : ∃ es, sortD S (keysD KL) = some es ∧ ∀ d ∈ es, ∃ w ∈ WL, d = .str w.1 := by
  have h1 : ((keysD KL).all (fun d => (D.py S 9 d).isSome) && sortOk ((keysD KL).map (encD S)) && decide ((keysD KL).length ≤ lim)) = true := by kernel_rfl
  refine ⟨(keysD KL).mergeSort (PySem.W.dataLe false (encD S)), ?_, fun d hd => ?_⟩
  · unfold sortD
    rw [if_pos (by simpa using h1)]
  · have hm := (List.mergeSort_perm (keysD KL) (PySem.W.dataLe false (encD S))).mem_iff.mp hd
    have e : keysD KL = WL.map fun w => D.str w.1 := by kernel_rfl
    rw [e] at hm
    obtain ⟨w, hw, rfl⟩ := List.mem_map.mp hm
    exact ⟨w, hw, rfl⟩
/-- numbers between the bounds make a family -/
theorem fam_of {w : Str × List Nat × List Nat} (hw : w ∈ WL) {ns : List Nat} (hl : ns.length = w.2.1.length) (hb : ∀ k, k < ns.length → w.2.1.getD k 0 ≤ ns.getD k 0 ∧ ns.getD k 0 ≤ w.2.2.getD k 0) : ∃ F : Fam, F.fine ∧ F.law ∧ F.word = w.1 ∧ F.nums = ns := by
  have one : ∀ {a b : List Nat}, w.2.1.length = 1 → ∃ n, ns = [n] ∧ w.2.1.getD 0 0 ≤ n ∧ n ≤ w.2.2.getD 0 0 := fun h => by
    rw [h] at hl
    match ns, hl with
    | [n], _ => exact ⟨n, rfl, by simpa using hb 0 (by simp)⟩
  have two : w.2.1.length = 2 → ∃ n m, ns = [n, m] ∧ (w.2.1.getD 0 0 ≤ n ∧ n ≤ w.2.2.getD 0 0) ∧ (w.2.1.getD 1 0 ≤ m ∧ m ≤ w.2.2.getD 1 0) := fun h => by
    rw [h] at hl
    match ns, hl with
    | [n, m], _ => exact ⟨n, m, rfl, by simpa using hb 0 (by simp), by simpa using hb 1 (by simp)⟩
  simp only [WL, List.mem_cons, List.not_mem_nil, or_false] at hw
  rcases hw with rfl | rfl | rfl | rfl | rfl | rfl | rfl | rfl | rfl | rfl
  · obtain ⟨n, rfl, h⟩ := one (a := []) (b := []) rfl
    exact ⟨.ring n, h, trivial, rfl, rfl⟩
  · obtain ⟨n, rfl, h⟩ := one (a := []) (b := []) rfl
    exact ⟨.path n, h.2, trivial, rfl, rfl⟩
  · obtain ⟨n, rfl, h⟩ := one (a := []) (b := []) rfl
    exact ⟨.complete n, h.2, trivial, rfl, rfl⟩
  · obtain ⟨n, m, rfl, h, h'⟩ := two rfl
    exact ⟨.bipartite n m, ⟨h.2, h'.2⟩, trivial, rfl, rfl⟩
  · obtain ⟨n, rfl, h⟩ := one (a := []) (b := []) rfl
    exact ⟨.wheel n, h, trivial, rfl, rfl⟩
  · obtain ⟨n, rfl, h⟩ := one (a := []) (b := []) rfl
    exact ⟨.star n, h.2, trivial, rfl, rfl⟩
  · obtain ⟨n, m, rfl, h, h'⟩ := two rfl
    exact ⟨.grid n m, ⟨h.1, h.2, h'.1, h'.2⟩, trivial, rfl, rfl⟩
  · obtain ⟨n, rfl, h⟩ := one (a := []) (b := []) rfl
    exact ⟨.prism n, h, trivial, rfl, rfl⟩
  · obtain ⟨n, rfl, h⟩ := one (a := []) (b := []) rfl
    exact ⟨.moebius n, h, trivial, rfl, rfl⟩
  · obtain ⟨n, rfl, h⟩ := one (a := []) (b := []) rfl
    exact ⟨.cube n, h.2, trivial, rfl, rfl⟩
end
/-- what is known of a word's row -/
structure Row (w : Str × List Nat × List Nat) : Prop where
  ly : Ly w.1
  least : dget KL (.text w.1) = some (.tup (natD w.2.1))
  most : (dget KM (.text w.1)).getD (.tup (natD [20])) = .tup (natD w.2.2)
  len : w.2.1.length = w.2.2.length
  le2 : w.2.1.length ≤ 2
  bd : ∀ k, k < w.2.1.length → w.2.1.getD k 0 ≤ w.2.2.getD k 0 ∧ w.2.2.getD k 0 ≤ 20
theorem row_of {w : Str × List Nat × List Nat} (hw : w ∈ WL) : Row w := by
  simp only [WL, List.mem_cons, List.not_mem_nil, or_false] at hw
  rcases hw with rfl | rfl | rfl | rfl | rfl | rfl | rfl | rfl | rfl | rfl
  all_goals
    refine ⟨by simp, by kernel_rfl, by kernel_rfl, rfl, by decide, by decide⟩
theorem law_ok {ns : List Int} (hn : ns.length ≤ 63) : ∃ S', f_law [.fz (intsD ns)] [] = some (.bl true, S') := by
  have hlim : lim = 1000000 := rfl
  suffices h : Ok (f_law [.fz (intsD ns)]) [] fun d _ => d = .bl true by
    obtain ⟨d, S', e, rfl⟩ := h
    exact ⟨S', e⟩
  unfold f_law b_law
  simp [ok_mFun]
  refine start_ok hn fun l c S0 st0 => ?_
  simp [ok_sFor]
  refine least_ok fun a S1 h1 k1 => ?_
  obtain ⟨es, he, hes⟩ := words_sorted (S := S1)
  rw [ok_sortedOf (rowOf_dct h1) he]
  have st1 := st0.keep (k1.trans (keep_app (w := []) (S := S1) (T := [Ob.lst es])))
  have hS2 := get_last (S := S1) (o := Ob.lst es)
  have hbl : S1.length ≠ l := fun e => by
    have a1 := st0.lt.1
    have a2 := k1.len
    omega
  generalize S1.length = b at hS2 hbl ⊢
  generalize S1 ++ [Ob.lst es] = S2 at hS2 st1 ⊢
  have hel : es.length ≤ 10 := by
    have e := he
    unfold sortD at e
    split at e
    · obtain rfl := Option.some.inj e
      rw [(List.mergeSort_perm _ _).length_eq]
      exact Nat.le_of_eq (by kernel_rfl)
    · cases e
  refine ⟨_, _, seqLv_lst hS2, ?_⟩
  refine ok_for (fun pre ρ S => (∃ y2 y3 y4 y5, ρ = [some (.fz (intsD ns)), some (.lst l), y2, y3, y4, y5, none]) ∧ Stt l c (pre.length * 100 : Nat) S ∧ S[b]? = some (.lst es)) ⟨⟨_, _, _, _, rfl⟩, st1, hS2⟩ (fun pre ρ S ⟨_, _, q⟩ => live_one.mpr q) ?_ ?_
  · rintro pre d post ρ S e ⟨⟨y2, y3, y4, y5, rfl⟩, st, hb⟩
    have hpre : pre.length < 10 := by
      have := congrArg List.length e
      rw [List.length_append, List.length_cons] at this
      omega
    obtain ⟨w, hw, rfl⟩ := hes d (by rw [e]; simp)
    have R := row_of hw
    simp
    refine least_ok fun a3 S3 h3 k3 => ?_
    rw [ok_ixD h3 rfl (by kernel_rfl) R.least]
    refine most_ok R.ly fun S4 k4 => ?_
    rw [R.most]
    try simp
    have st4 := (st.keep k3).keep k4
    have hb4 := (k3.trans k4).at_ b (by simp) _ hb
    rw [ok_mComp]
    simp
    refine ⟨by have := R.le2; omega, ?_⟩
    try refine ⟨by have := R.le2; omega, ?_⟩
    refine ok_comp (fun pr acc S5 => ∃ ms : List Nat, acc = natD ms ∧ ms.length = pr.length ∧ (∀ k, k < ms.length → w.2.1.getD k 0 ≤ ms.getD k 0 ∧ ms.getD k 0 ≤ w.2.2.getD k 0) ∧ Stt l c ((pre.length * 100 : Nat) + pr.length : Int) S5 ∧ Keep [l] S4 S5) ⟨[], rfl, rfl, fun k hk => absurd hk (Nat.not_lt_zero _), by simpa using st4, Keep.refl⟩ (fun _ _ _ _ => live_nil) ?_ ?_
    · rintro pr d po acc S5 e2 ⟨ms, rfl, hml, hms, st5, k5⟩
      obtain ⟨hk, rfl⟩ := rowD_split' e2
      have hk2 := R.le2
      have hkm : pr.length < w.2.2.length := by rw [← R.len]; exact hk
      obtain ⟨b1, b2⟩ := R.bd _ hk
      have ga : atI (natD w.2.1) (pr.length : Int) = some (.int ((w.2.1.getD pr.length 0 : Nat) : Int)) := VM.atI_nat (natD_get (by rw [List.getD_eq_getElem?_getD, List.getElem?_eq_getElem hk]; rfl))
      have gm : atI (natD w.2.2) (pr.length : Int) = some (.int ((w.2.2.getD pr.length 0 : Nat) : Int)) := VM.atI_nat (natD_get (by rw [List.getD_eq_getElem?_getD, List.getElem?_eq_getElem hkm]; rfl))
      generalize hlo : w.2.1.getD pr.length 0 = lo at b1 ga
      generalize hhi : w.2.2.getD pr.length 0 = hi at b1 b2 gm
      simp [ga, gm]
      refine draw_k st5 (by omega) (by omega) (by omega) fun r S6 r0 r1 st6 k6 => ?_
      obtain ⟨q, rfl⟩ : ∃ q : Nat, r = q := ⟨r.toNat, by omega⟩
      simp
      refine ⟨ms ++ [lo + q], by simp, by simp [hml], fun k hk' => ?_, by simpa [Int.add_assoc] using st6, k5.trans k6⟩
      rw [List.length_append, List.length_singleton] at hk'
      simp only [← List.getD_eq_getElem?_getD]
      by_cases ck : k < ms.length
      · have := hms k ck
        have e3 : (ms ++ [lo + q]).getD k 0 = ms.getD k 0 := by rw [List.getD_eq_getElem?_getD, List.getElem?_append_left ck, List.getD_eq_getElem?_getD]
        rw [e3]
        exact this
      · obtain rfl : k = ms.length := by omega
        have e3 : (ms ++ [lo + q]).getD ms.length 0 = lo + q := by rw [List.getD_eq_getElem?_getD, List.getElem?_append_right (Nat.le_refl _), Nat.sub_self]; rfl
        rw [e3, hml, hlo, hhi]
        omega
    · rintro acc S5 ⟨ms, rfl, hml, hms, st5, k5⟩
      rw [rowD_len] at hml st5
      have hk2 := R.le2
      obtain ⟨F, hF, hl, hFw, hFn⟩ := fam_of hw hml hms
      refine ⟨by rw [natD_length]; omega, ?_⟩
      have st6 := st5.keep (keep_app (w := []) (S := S5) (T := [Ob.lst (natD ms)]))
      have hb6 := get_app (T := [Ob.lst (natD ms)]) (k5.at_ b (by simpa using hbl) _ hb4)
      generalize S5 ++ [Ob.lst (natD ms)] = S6 at st6 hb6 ⊢
      rw [← hFw, ← hFn]
      refine family_holds_ok F hF hl st6 (by omega) fun S7 st7 k7 => ?_
      simp
      exact ⟨st7.mono (by omega), k7.at_ b (by simpa using hbl) _ hb6⟩
  · rintro ρ S ⟨⟨y2, y3, y4, y5, rfl⟩, st, hb⟩
    simp
    exact petersen_ok st (by omega) fun S' => rfl
end VMP

open PySem PySem.W PySem.Calls PyProof.Rows
theorem PySem.Challenge.cw_partsbarred_k70_families_by_distances_holds : PySem.Challenge.rw_partsbarred_k70_families_by_distances.Holds := by
  w_on; o_law
  refine HandSHeadRun.head_any (r := OpenLaw.row PySem.Challenge.rw_partsbarred_k70_families_by_distances) (q := view (OpenLaw.row PySem.Challenge.rw_partsbarred_k70_families_by_distances).prog [48]) (H := VMP.hk) (ob := VMP.ob) (M := 4000) (loose := VMP.loose) (d := HandSHeadRun.topDef (OpenLaw.row PySem.Challenge.rw_partsbarred_k70_families_by_distances).prog 48) (kwd := []) VMP.ob_eq
    (by kernel_rfl) (fun s => by kernel_rfl) VMP.run (by kernel_rfl) (by kernel_rfl) (by kernel_rfl) (by rfl) (by first | assumption | decide +kernel) (by decide +kernel) ⟨rfl, rfl, rfl, rfl, rfl, by decide +kernel⟩ ?hw ?hc
  case hw => w_witness2
  case hc =>
    refine VM.walk_end (l := PySem.Challenge.rw_partsbarred_k70_families_by_distances) (n := 63) (k := 7) (x := "script") (m := VMP.f_law) rfl (by decide) (by kernel_rfl) ⟨rfl, by decide, by decide⟩ ?F (fun ns hn => VMP.law_ok hn)
    intro w mg fa h Y G hmg0
    obtain ⟨K, KX, c⟩ := Y
    have hmg : mg ("law" : PySem.Str) = some (.ref fa) := by
      have e : (HandSHeadRun.topDef (OpenLaw.row PySem.Challenge.rw_partsbarred_k70_families_by_distances).prog 48).name = ("law" : PySem.Str) := by kernel_rfl
      rw [← e]
      exact hmg0
    have Z := VMP.fx_of KX G c
    obtain ⟨a, fd, F, hm⟩ := Z.d_law
    obtain rfl : a = fa := by
      rw [hmg] at hm
      injection hm with hm
      injection hm with hm
      exact hm.symm
    have b := L2.FunD.bindsA (ps := ["script"]) F fun _ _ _ _ _ _ us hl => match us, hl with | [_], _ => rfl
    exact ⟨K, fd, KX, fun s v => b s [v] rfl, fun base _ _ => VMP.law_v Z F⟩

