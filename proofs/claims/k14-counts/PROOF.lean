import PyProof.Rows.All
import Wide.All
import OpenK.AllK
import Wide.FinOn
import HandS.ForMost
import HandS.ForExc
import HandS.TupAny
import HandS.TupMul
import HandS.Conv
import HandS.Style
import HandS.Lambda
import HandS.Deep
import HandS.TupLe
import HandS.IsInst
import KE.GoesEnum
import HandS.Iter
import HandS.Dict
import HandS.Small
import HandS.WordsList
import HandS.Strs
import HandS.CallLocal
import HandS.EndTab
import HandS.Star
import HandS.DictTup
import HandS.SortRule
import PySem.Challenge.RW_cordrules_k14_whole_counts_and_pair_numb
import PyProof.ReprLen
import KE.DataCmp
set_option Elab.async false
set_option linter.all false
set_option maxRecDepth 100000
/-! QT: tuples that are known to have no dict (as frozen objects): displays, tuple(..), +, slices, [::-1] -/
namespace QL
open PySem PySem.Spec L2
open PyProof.Rows hiding St

/-- the tuple's object -/
abbrev tupO (its : List Value) : Obj := { cls := .type "tuple", data := .seq its.toArray }
/-- new at a: a tuple of xs -/
def NewT (H : Hp) (xs : List V) (Q : VK) : Prop := ∀ a its, H a = none → Q (.ref a) (upd H a (.frz (tupO its) (.tup xs)))
theorem newT {X : Cx} {pins : List (Addr × Obj)} {σ : St} {H : Hp} {s : Shared} {xs : List V} {its : List Value} {t' : Nat} {Q : VK} (J : Inv X pins σ H s) (rv : Vals xs its) (le : xs.length ≤ sizeLine) (q : NewT H xs Q) :
    EP X pins σ Q (.ref s.heap.objs.size) { s with heap := s.heap.push (tupO its), toks := t' } := by
  have at_ : (s.heap.push (tupO its)).get? s.heap.objs.size = some (tupO its) := Heap.get?_push_size _ rfl
  have ob : ObjOk X.prog X.w (upd H s.heap.objs.size (.frz (tupO its) (.tup xs))) (s.heap.push (tupO its)) s.heap.objs.size (.frz (tupO its) (.tup xs)) := ⟨at_, le, its, rv, _, at_, rfl, _, rfl⟩
  exact ⟨.ref _, _, J.laid (fun b u e => Heap.get?_push_of_some _ e) (Nat.le_refl _) ob, rfl, q _ its (J.hok.fresh (Nat.le_refl _))⟩
section
variable {X : Cx} {es : List Expr} {e : Expr} {t : TA} {te : TE} {pos p : Pos}
def tTupZ (t : TA) : TE := fun σ H Q => t σ H fun xs H1 => xs.length ≤ sizeLine ∧ NewT H1 xs Q
theorem pe_tupZ {x1} (h : PA X es t) : PE X (.Tuple es x1 pos) (tTupZ t) where
  run pins s σ H Q J hq := wpAny_Tuple_spliced (thn (h.run pos pins s σ H _ J hq) fun us s1 hh => by
    obtain ⟨xs, H1, J1, rv, le, q⟩ := hh
    exact ⟨rv.length ▸ le, newT (t' := s1.toks) J1 rv le q⟩)
/-- tuple(xs), tuple(t) -/
theorem call_tupleZ : CallR X (.type "tuple") (fun xs H Q => ∃ p ys, xs = [.ref p] ∧ ((SqL X.K H p ys ∧ NewT H ys Q) ∨ (SqT X.K H p ys ∧ Q (.ref p) H))) := by
  rintro pins s σ H _ us Q J rvs ⟨p, ys, rfl, h⟩
  obtain ⟨u, rfl, ru⟩ := vals1 rvs
  cases ru
  cases h with
  | inl h =>
    obtain ⟨its, rv, pl, le⟩ := J.list h.1
    exact call_tuple_list pl.isList (fun g kp => newT (t' := s.toks) (J.kept (h' := g) (t' := s.toks) kp) rv le h.2) (by rw [List.size_toArray, ← rv.length]; exact le)
  | inr h =>
    obtain ⟨its, rv, pl, le⟩ := J.tuple h.1
    exact call_tuple_same pl ⟨.ref _, H, J, rfl, h.2⟩
def tTupRgZ (te : St → Hp → (Int → Int → Hp → Prop) → Prop) : TE := fun σ H Q => te σ H fun a b H1 => RgOk a b ∧ NewT H1 (rgV a b) Q
theorem pe_tupRgZ {te : St → Hp → (Int → Int → Hp → Prop) → Prop} (hc : X.calm = true) (hg : Gl X "tuple") (hm : X.mg "tuple" = none) (he : PRg X e te) (na : starEach [e] X.env = (false, eval e X.env) :: starEach [] X.env := by rfl) :
    PE X (.Call (.Name "tuple" p) [e] [] pos) (tTupRgZ te) where
  run pins s σ H Q J h := Call_ (ld_blt J hg hm boot_tuple (PyProof.Rows.callWith_type1 (args_cons (thn (he pins s σ H _ J h) fun x s1 hh => args_nil (by
    obtain ⟨r, a, b, t, u, v, H1, ex, hr, J1, ⟨b1, b2, b3, b4, b5⟩, q⟩ := hh
    subst ex
    refine call_tuple_range (J1.ok.hd hc) hr (small_one b1 b2 b3 b4) (rangeSize_nat a b) b5 fun g tk acc kp items => ?_
    have J2 : Inv X pins σ H1 { s1 with heap := g, toks := tk } := J1.kept kp
    have le : (rgV a b).length ≤ sizeLine := by rw [rgV_length, sizeLine_eq]; omega
    simpa using newT (t' := tk) J2 (vals_rg items) le q)) na) na))
/-- t + u -/
def rCatZ (K : PySem.W.Frag) : R2 := fun x y H Q => ∃ a b xs ys, x = .ref a ∧ y = .ref b ∧ SqT K H a xs ∧ SqT K H b ys ∧ xs.length + ys.length ≤ sizeLine ∧
  (xs = [] → Q (.ref b) H) ∧ (xs ≠ [] → ys = [] → Q (.ref a) H) ∧ (xs ≠ [] → ys ≠ [] → NewT H (xs ++ ys) Q)
theorem op_catZ : OpR X (binaryOp .Add) (rCatZ X.K) := by
  rintro pins s σ H _ _ v u Q J rv ru ⟨a, b, xs, ys, rfl, rfl, ha, hb, le, q0, q1, q2⟩
  cases rv; cases ru
  obtain ⟨A, rA, tA, _⟩ := J.tuple ha
  obtain ⟨B, rB, tB, _⟩ := J.tuple hb
  by_cases hx : xs = []
  · subst hx
    cases rA
    exact cat_tup0 tA tB ⟨.ref _, H, J, rfl, q0 rfl⟩
  · have nA : A ≠ [] := fun z => hx (rA.nil_iff.mp z)
    exact HT.cat_tup tA tB nA (fun z => ⟨.ref _, H, J, rfl, q1 hx (rB.nil_iff.mp z)⟩) (fun z => newT (t' := s.toks) J (rA.append rB) (by simpa using le) (q2 hx fun w => z (rB.nil_iff.mpr w))) (by rw [← rA.length, ← rB.length]; exact le)
/-- t[lo:hi] -/
abbrev WholeCut (n : Nat) (lo hi : Option Int) : Prop := HT.sIx n 0 lo = 0 ∧ HT.sIx n n hi = n
def rSlZ (K : PySem.W.Frag) : V → Option Int → Option Int → Hp → VK → Prop := fun x lo hi H Q => ∃ a xs, x = .ref a ∧ SqT K H a xs ∧ (WholeCut xs.length lo hi → Q (.ref a) H) ∧ (¬ WholeCut xs.length lo hi → NewT H (cutV xs lo hi) Q)
theorem sl_tupZ : SlR X (rSlZ X.K) := by
  rintro pins s σ H _ v vl vu lo hi sl Q J rv hs pl pu ⟨a, xs, rfl, hx, q1, q2⟩
  cases rv
  obtain ⟨A, rA, tA, le⟩ := J.tuple hx
  have n : A.toArray.size = xs.length := by simpa using rA.length.symm
  refine ⟨_, _, PyProof.Rows.slot_tuple_getitem.lookup, tA.typeIs, ?_⟩
  by_cases hw : WholeCut xs.length lo hi
  · exact getItem_tuple_whole tA hs pl pu (by rw [n]; exact hw) ⟨.ref _, H, J, rfl, q1 hw⟩
  · refine HT.getItem_tuple_cut tA hs pl pu (by rw [n]; exact hw) ?_ (n ▸ le)
    rw [n]
    exact newT (t' := s.toks) J ((rA.drop _).take _) (Nat.le_trans (cutV_length xs lo hi) le) (q2 hw)
end

/-! ### t[::-1] -/
section
variable {P : Program} {w : World} {A : Around} {E : Value → Shared → Prop} {s : Shared}
theorem fm_congr {α β : Type} {f g : α → Option β} : ∀ {l : List α}, (∀ x ∈ l, f x = g x) → l.filterMap f = l.filterMap g
  | [], _ => rfl
  | a :: l, h => by
    rw [List.filterMap_cons, List.filterMap_cons, h a List.mem_cons_self, fm_congr fun x hx => h x (List.mem_cons_of_mem _ hx)]
theorem fm_all {α : Type} (l : List α) : (List.range l.length).filterMap (fun m => l[m]?) = l := by
  have := pick_run l.toArray 0 l.length
  simp at this
  exact this
theorem pick_back (xs : Array Value) : ((List.range xs.size).filterMap fun (m : Nat) => xs[(((xs.size : Int) - 1) + (m : Int) * (-1)).toNat]?).toArray = xs.toList.reverse.toArray := by
  congr 1
  have e : (List.range xs.size).filterMap (fun (m : Nat) => xs[(((xs.size : Int) - 1) + (m : Int) * (-1)).toNat]?) = (List.range xs.toList.reverse.length).filterMap (fun (m : Nat) => xs.toList.reverse[m]?) := by
    rw [show xs.toList.reverse.length = xs.size by simp]
    refine fm_congr fun m hm => ?_
    have hm' : m < xs.size := List.mem_range.mp hm
    have e1 : (((xs.size : Int) - 1) + (m : Int) * (-1)).toNat = xs.size - 1 - m := by omega
    rw [e1, List.getElem?_reverse (by simpa using hm'), Array.length_toList, Array.getElem?_toList]
  rw [e, fm_all]
/-- the parts of [::-1] -/
theorem parts_back {sl : Addr} {n : Nat} {tk : Tok} {Q : Int × Int × Nat → Shared → Prop} (hs : s.heap.IsSliceOf sl .none .none (.int (-1) tk)) (h : Q ((n : Int) - 1, -1, n) s) :
    wpAny (model P w) A (Builtin.Slice.sliceApplied (.ref sl) (pure (n : Int))) Q E s := by
  have places : Builtin.Slice.slicePlaces ((n : Int) - 1) (-1) (-1) = n := by
    simp only [Builtin.Slice.slicePlaces, show ¬ ((-1 : Int) > 0) by omega, if_false]
    rw [show ((n : Int) - 1 - -1 - 1) = (n : Int) - 1 by omega, show (- -1 : Int) = 1 by omega, Int.ediv_one]
    split <;> omega
  obtain ⟨o, ho, _, hd⟩ := hs
  simp only [Builtin.Slice.sliceApplied, Builtin.Slice.sliceFields]
  refine wpAny_bind (wpAny_bind (wpAny_field ho hd (x := .none) rfl (wpAny_bind (wpAny_field ho hd (x := .none) rfl (wpAny_bind (wpAny_field ho hd rfl (wpAny_pure ?_)))))))
  refine wpAny_bind (slicePart_int (show wpAny _ _ (if ((-1 : Int) == 0) = true then _ else _) _ _ s from ?_))
  rw [if_neg (by decide)]
  refine wpAny_bind (slicePart_none (wpAny_bind (slicePart_none (wpAny_bind (wpAny_pure ?_)))))
  show wpAny _ _ (pure ((n : Int) - 1, (-1 : Int), Builtin.Slice.slicePlaces ((n : Int) - 1) (-1) (-1))) _ _ s
  rw [places]
  exact wpAny_pure h
theorem back_item {t sl : Addr} {its : Array Value} {tk : Tok} {Q : Value → Shared → Prop} (ht : IsTup s.heap t its) (hs : s.heap.IsSliceOf sl .none .none (.int (-1) tk))
    (h : Q (.ref s.heap.objs.size) { s with heap := s.heap.push (tupO its.toList.reverse) }) (le : its.size ≤ sizeLine) : wpAny (model P w) A (getItem (.ref t) (.ref sl)) Q E s := by
  have le' : sizeOk (.seq its.toList.reverse.toArray) := (show its.toList.reverse.toArray.size ≤ sizeLine by simpa using le)
  have no : ¬ (((its.size : Int) - 1 == 0 && (-1 : Int) == 1 && its.size == its.size) = true) := by simp
  have tS : s.TypeIs (.ref sl) "slice" := let ⟨o, ho, hc, _⟩ := hs; ⟨o, ho, hc⟩
  unfold getItem
  try with_reducible apply wpAny_holding
  first | apply wpAny_bind (wpAny_pure ?_) | skip
  refine wpAny_bind (wpAny_sequenceKey ht.typeIs (by decide) (wpAny_bind (wpAny_callSpecial?_slot (name := Str.ofString "__getitem__") ht.typeIs PyProof.Rows.slot_tuple_getitem (wpAny_call_entry PyProof.Rows.slot_tuple_getitem ht.typeIs entry_tuple_getitem ?_ (args_tuple_getitem _ _)))))
  refine (show wpAny _ _ (Builtin.Tuple.tupleItemsOf (.ref t) >>= _) _ _ s from wpAny_bind (tupleItemsOf_ ht (wpAny_bind (wpAny_typeOf tS ?_))))
  rw [if_pos (by decide)]
  refine wpAny_bind (parts_back (n := its.size) hs (show wpAny _ _ (if ((its.size : Int) - 1 == 0 && (-1 : Int) == 1 && its.size == its.size) = true then _ else _) _ _ s from ?_))
  rw [if_neg no, pick_back]
  first
    | exact wpAny_bind (m := Builtin.Tuple.tupleExact _) (wpAny_newObj_type (by first | exact wpAny_pure ⟨_, rfl, wpAny_pure h⟩ | exact wpAny_bind (wpAny_pure (wpAny_pure ⟨_, rfl, wpAny_pure h⟩))) le')
    | exact wpAny_bind (wpAny_bind (m := Builtin.Tuple.tupleExact _) (wpAny_newObj_type (by first | exact wpAny_pure ⟨_, rfl, wpAny_pure h⟩ | exact wpAny_pure (wpAny_pure ⟨_, rfl, wpAny_pure h⟩)) le'))
end
section
variable {X : Cx}
/-- the written slice [::-1] -/
abbrev backSlice (k : Nat) (p1 p2 p3 : Pos) : Expr := .Slice none none (some (.UnaryOp .USub (.Constant (.int 1) k p1) p2)) p3
def tRevT (K : PySem.W.Frag) (te : TE) : TE := fun σ H Q => te σ H fun x H1 => (∃ a xs, x = .ref a ∧ SqT K H1 a xs ∧ NewT H1 xs.reverse Q)
theorem pe_revT {e : Expr} {te : TE} {k : Nat} {p1 p2 p3 pos : Pos} (he : PE X e te) : PE X (.Subscript e (backSlice k p1 p2 p3) pos) (tRevT X.K te) where
  run pins s σ H Q J h := Subscript_ (thn (he.run pins s σ H _ J h) fun v s1 hh => by
    obtain ⟨x, H1, J1, rv, a, xs, rfl, hx, q⟩ := hh
    cases rv
    have step : PO X (some (.UnaryOp .USub (.Constant (.int 1) k p1) p2)) _ := po_some (pe_un un_neg pe_int)
    refine wpAny_Slice (thn (po_none.run pins s1 σ H1 (fun o G => o = none ∧ G = H1) J1 ⟨rfl, rfl⟩) fun vl s2 h2 => ?_)
    obtain ⟨_, _, J2, pl, rfl, rfl⟩ := h2
    refine thn (po_none.run pins s2 σ _ (fun o G => o = none ∧ G = _) J2 ⟨rfl, rfl⟩) fun vu s3 h3 => ?_
    obtain ⟨_, _, J3, pu, rfl, rfl⟩ := h3
    refine thn (step.run pins s3 σ _ (fun o G => o = some (-1) ∧ G = _) J3 ⟨1, rfl, -1, rfl, rfl, rfl⟩) fun vs s4 h4 => ?_
    obtain ⟨_, _, J4, ps, rfl, rfl⟩ := h4
    cases pl; cases pu
    obtain ⟨tk, rfl⟩ : ∃ tk, vs = Value.int (-1) tk := by cases ps; exact ⟨_, rfl⟩
    have J5 := J4.kept (t' := s4.toks) (h' := s4.heap.push { cls := .type "slice", data := .fields #[.none, .none, .int (-1) tk] }) fun b ob z => Heap.get?_push_of_some _ z
    obtain ⟨its, r, ht, le⟩ := J5.tuple hx
    refine tail_any (ops := [.ref a, .ref s4.heap.objs.size]) ht.typeIs PyProof.Rows.slot_tuple_getitem.lookup (back_item ht (Heap.IsSliceOf.new _ .none .none (.int (-1) tk)) ?_ (by rw [List.size_toArray, ← r.length]; exact le)) (by with_unfolding_all rfl)
    exact newT (t' := s4.toks) J5 (by simpa using r.reverse) (by rw [List.length_reverse]; exact le) q)
end
end QL

set_option Elab.async false
set_option linter.all false
set_option maxRecDepth 100000
/-! QA: values by content (D), the store, the frame's relation, readings by functions -/
namespace QL
open PySem PySem.Spec PyProof.Rows L2

/-- a value by its content (tup true: a tuple that is known to have no dict): lists by value (never changed while so held), frz: a list that nobody changes (the script), ref: an object of the store, glo: what a module's name holds -/
inductive D where
  | non | bl (b : Bool) | int (i : Int) | str (x : Str)
  | tup (z : Bool) (xs : List D) | lst (xs : List D) | frz (xs : List D) | ref (n : Nat) | glo (x : Str) | adr (a : Addr)
/-- an object of the store -/
inductive MO where
  | lst (xs : List D)
  | dct (kvs : List (Key × D))
  | dctT (kvs : List (List Key × D))
  | tab (q : Str)
  | ins (c : Str) (fs : List (Str × D))
  | fdK (kvs : List (Key × D))
  | fdT (kvs : List (List Key × D))
  | fl (xs : List D)
/-- what a slot holds: nothing, a value, a list of its own (it may be changed), a list that is lent -/
inductive Sl where
  | emp | val (d : D) | own (xs : List D) | bor (xs : List D)
abbrev Sto := List MO
abbrev Rho := List Sl
inductive Res where
  | ok (d : D) (S : Sto)
  | err (c : Str) (fs : List (Str × D)) (S : Sto)
  | stuck
inductive SRes where
  | nx (r : Rho) (S : Sto)
  | ret (d : D) (S : Sto)
  | brk (r : Rho) (S : Sto)
  | ct (r : Rho) (S : Sto)
  | err (c : Str) (fs : List (Str × D)) (r : Rho) (S : Sto)
  | stuck
abbrev Fx := Rho → Sto → Res
abbrev Gx := Rho → Sto → SRes

section
variable (K : PySem.W.Frag) (mg : Str → Option Value) (M : Addr → Prop) (p : List Addr) (H : Hp)
/-- a list that nobody changes -/
def SqZ (K : PySem.W.Frag) (H : Hp) (a : Addr) (xs : List V) : Prop :=
  (∃ o, H a = some (.frz o (.lst xs))) ∨
    ∃ (o : Obj) (its : Array Value) (n : Nat), K.lookup a = some o ∧ o.cls = .type "list" ∧ o.dict = none ∧ o.data = .seq its n ∧ its.size ≤ sizeLine ∧ Vals xs its.toList
/-- a tuple that is known to have no dict -/
def TupZ (K : PySem.W.Frag) (H : Hp) (a : Addr) (xs : List V) : Prop :=
  (∃ o, H a = some (.frz o (.tup xs)) ∧ o.dict = none) ∨
    ∃ (o : Obj) (its : Array Value) (n : Nat), K.lookup a = some o ∧ o.cls = .type "tuple" ∧ o.dict = none ∧ o.data = .seq its n ∧ its.size ≤ sizeLine ∧ Vals xs its.toList
def TQ (z : Bool) (K : PySem.W.Frag) (H : Hp) (a : Addr) (xs : List V) : Prop := match z with
  | true => TupZ K H a xs
  | false => SqT K H a xs
theorem TupZ.sq {K : PySem.W.Frag} {H : Hp} {a : Addr} {xs : List V} (h : TupZ K H a xs) : SqT K H a xs := by
  rcases h with ⟨o, h, _⟩ | ⟨o, its, n, h1, h2, _, h3⟩
  · exact .inl (.inr ⟨o, h⟩)
  · exact .inr ⟨o, its, n, h1, h2, h3⟩
theorem TQ.sq {z : Bool} {K : PySem.W.Frag} {H : Hp} {a : Addr} {xs : List V} (h : TQ z K H a xs) : SqT K H a xs := by
  cases z with
  | true => exact TupZ.sq h
  | false => exact h
theorem TupZ.tq {z : Bool} {K : PySem.W.Frag} {H : Hp} {a : Addr} {xs : List V} (h : TupZ K H a xs) : TQ z K H a xs := by
  cases z with
  | true => exact h
  | false => exact h.sq
theorem TQ.weak {z y : Bool} {K : PySem.W.Frag} {H : Hp} {a : Addr} {xs : List V} (h : TQ z K H a xs) : TQ (z && y) K H a xs := by
  cases z with
  | true => exact TupZ.tq h
  | false => exact h
theorem SqZ.sq {K : PySem.W.Frag} {H : Hp} {a : Addr} {xs : List V} (h : SqZ K H a xs) : SqL K H a xs := h.elim (fun h => .inl (.inr h)) .inr
theorem SqL.sz {K : PySem.W.Frag} {H : Hp} {a : Addr} {xs : List V} (h : SqL K H a xs) (n : ∀ vs, H a ≠ some (.lst vs)) : SqZ K H a xs := by
  rcases h with (h | h) | h
  · exact absurd h (n xs)
  · exact .inl h
  · exact .inr h
mutual
def RD : D → V → Prop
  | .non, v => v = .non
  | .bl b, v => v = .bl b
  | .int i, v => v = .int i
  | .str x, v => v = .str x
  | .tup z ds, v => ∃ a vs, v = .ref a ∧ TQ z K H a vs ∧ RDs ds vs
  | .lst ds, v => ∃ a vs, v = .ref a ∧ H a = some (.lst vs) ∧ ¬ M a ∧ RDs ds vs
  | .frz ds, v => ∃ a vs, v = .ref a ∧ SqZ K H a vs ∧ RDs ds vs
  | .ref n, v => ∃ a, p[n]? = some a ∧ v = .ref a
  | .glo x, v => ∃ u, mg x = some u ∧ RelV v u
  | .adr a, v => v = .ref a
def RDs : List D → List V → Prop
  | [], vs => vs = []
  | d :: ds, vs => ∃ v r, vs = v :: r ∧ RD d v ∧ RDs ds r
end
/-- pairs of a key and a value -/
def RKs {κ : Type} : List (κ × D) → List (κ × V) → Prop
  | [], ws => ws = []
  | kd :: r, ws => ∃ v r', ws = (kd.1, v) :: r' ∧ RD K mg M p H kd.2 v ∧ RKs r r'
/-- the table of code objects of the def of the name x stands at a -/
def TabAt (K : PySem.W.Frag) (mg : Str → Option Value) (x : Str) (a : Addr) : Prop := ∃ f c, mg x = some (.ref f) ∧ (∃ oc od fd sl, K.lookup f = some ⟨oc, od, .func fd, sl⟩ ∧ fd.code = .ref c) ∧ ∃ e dd vs sl, K.lookup c = some ⟨e, dd, .fields vs, sl⟩ ∧ vs[11]? = some (.ref a)
/-- an object of the store stands at a -/
def MR (a : Addr) : MO → Prop
  | .lst ds => ∃ vs, H a = some (.lst vs) ∧ RDs K mg M p H ds vs
  | .dct kvs => ∃ ws, H a = some (.dK ws) ∧ RKs K mg M p H kvs ws
  | .dctT kvs => ∃ ws, H a = some (.dT ws) ∧ RKs K mg M p H kvs ws
  | .tab x => TabAt K mg x a ∧ LamX.TabS H a (x ++ ".<locals>." ++ "<lambda>")
  | .ins c fs => ∃ ws, (∃ C dx, mg c = some (.ref C) ∧ H a = some (.ins C dx ws)) ∧ RKs K mg M p H fs ws
  | .fdK kvs => ∃ ws, (∃ q, H a = some (.frz q (.dK ws))) ∧ RKs K mg M p H kvs ws
  | .fdT kvs => ∃ ws, (∃ q, H a = some (.frz q (.dT ws))) ∧ RKs K mg M p H kvs ws
  | .fl ds => ∃ vs, (∃ q, H a = some (.frz q (.lst vs))) ∧ RDs K mg M p H ds vs
/-- the store stands at the addresses p -/
structure SR (S : Sto) : Prop where
  len : p.length = S.length
  nd : p.Nodup
  inM : ∀ a ∈ p, M a
  at_ : ∀ (n : Nat) (o : MO), S[n]? = some o → ∃ a, p[n]? = some a ∧ MR K mg M p H a o
/-- a value that is only read here: a list may be anybody's -/
def TV : D → V → Prop
  | .lst ds, v => ∃ a vs, v = .ref a ∧ H a = some (.lst vs) ∧ a ∉ p ∧ RDs K mg M p H ds vs
  | .frz ds, v => ∃ a vs, v = .ref a ∧ SqZ K H a vs ∧ RDs K mg M p H ds vs
  | .non, v => v = .non
  | .bl b, v => v = .bl b
  | .int i, v => v = .int i
  | .str x, v => v = .str x
  | .tup z ds, v => ∃ a vs, v = .ref a ∧ TQ z K H a vs ∧ RDs K mg M p H ds vs
  | .ref n, v => ∃ a, p[n]? = some a ∧ v = .ref a
  | .glo x, v => ∃ u, mg x = some u ∧ RelV v u
  | .adr a, v => v = .ref a
/-- a slot -/
def SLR (o : Option Addr) (x : Option (Option V)) : Sl → Prop
  | .emp => o = none
  | .val d => o = none ∧ ∃ v, x = some (some v) ∧ RD K mg M p H d v
  | .own ds => ∃ a vs, o = some a ∧ x = some (some (.ref a)) ∧ H a = some (.lst vs) ∧ RDs K mg M p H ds vs
  | .bor ds => o = none ∧ ∃ v, x = some (some v) ∧ TV K mg M p H (.lst ds) v
end

/-- the heap grows: from (M, p, H) to (M', p', H'), the store's objects may change -/
structure Ext (M : Addr → Prop) (p : List Addr) (H : Hp) (M' : Addr → Prop) (p' : List Addr) (H' : Hp) : Prop where
  keep : ∀ a o, H a = some o → a ∉ p → H' a = some o
  dom : ∀ a, H a ≠ none → H' a ≠ none
  phi : ∃ q, p' = p ++ q ∧ ∀ a ∈ q, H a = none
  mm : ∀ a, M' a → M a ∨ H a = none
  fz : ∀ a q u, H a = some (.frz q u) → H' a = some (.frz q u)

section
variable {K : PySem.W.Frag} {mg : Str → Option Value} {M M' M2 : Addr → Prop} {p p' p2 : List Addr} {H H' H2 : Hp} {S : Sto}
theorem Ext.refl : Ext M p H M p H := ⟨fun _ _ e _ => e, fun _ h => h, ⟨[], by simp, by simp⟩, fun _ m => .inl m, fun _ _ _ e => e⟩
theorem Ext.back (e : Ext M p H M' p' H') {a : Addr} (h : H' a = none) : H a = none := by
  cases z : H a with
  | none => rfl
  | some o => exact absurd h (e.dom a (by rw [z]; simp))
theorem Ext.trans (e : Ext M p H M' p' H') (f : Ext M' p' H' M2 p2 H2) : Ext M p H M2 p2 H2 := by
  obtain ⟨q, rfl, hq⟩ := e.phi
  obtain ⟨r, rfl, hr⟩ := f.phi
  refine ⟨fun a o h ha => ?_, fun a h => f.dom a (e.dom a h), ⟨q ++ r, by simp, fun a ha => ?_⟩, fun a m => ?_, fun a q u h => f.fz a q u (e.fz a q u h)⟩
  · by_cases hq' : a ∈ q
    · rw [hq a hq'] at h; cases h
    · exact f.keep a o (e.keep a o h ha) (by simp [ha, hq'])
  · rcases List.mem_append.mp ha with z | z
    · exact hq a z
    · exact e.back (hr a z)
  · rcases f.mm a m with z | z
    · exact e.mm a z
    · exact .inr (e.back z)
theorem Ext.nin (e : Ext M p H M' p' H') {a : Addr} (h : H a ≠ none) (ha : a ∉ p) : a ∉ p' := by
  obtain ⟨q, rfl, hq⟩ := e.phi
  intro z
  rcases List.mem_append.mp z with z | z
  · exact ha z
  · exact h (hq a z)
theorem Ext.get (e : Ext M p H M' p' H') {n : Nat} {a : Addr} (h : p[n]? = some a) : p'[n]? = some a := by
  obtain ⟨q, rfl, hq⟩ := e.phi
  rw [List.getElem?_append_left (List.getElem?_eq_some_iff.mp h).1]
  exact h
/-- the store's objects may change: none is a tuple, none is frozen -/
def Mx : Option HO → Prop
  | some (.lst _) => True
  | some (.dK _) => True
  | some (.dT _) => True
  | some (.tbl _) => True
  | some (.ins _ _ _) => True
  | some (.frz _ (.dK _)) => True
  | some (.frz _ (.dT _)) => True
  | some (.frz _ (.lst _)) => True
  | _ => False
/-- .. and not locked -/
def Wx : Option HO → Prop
  | some (.lst _) => True
  | some (.dK _) => True
  | some (.dT _) => True
  | some (.tbl _) => True
  | some (.ins _ _ _) => True
  | _ => False
theorem wx_of {o : Option HO} (h : Mx o) (nf : ∀ q u, o ≠ some (.frz q u)) : Wx o := by
  match o, h with
  | some (.lst _), _ => trivial
  | some (.dK _), _ => trivial
  | some (.dT _), _ => trivial
  | some (.tbl _), _ => trivial
  | some (.ins _ _ _), _ => trivial
  | some (.frz q u), _ => exact absurd rfl (nf q u)
def Muts (p : List Addr) (H : Hp) : Prop := ∀ a ∈ p, Mx (H a)
theorem SR.muts (R : SR K mg M p H S) : Muts p H := fun a ha => by
  obtain ⟨n, hn, e⟩ := List.mem_iff_getElem.mp ha
  have hn' : n < S.length := by rw [← R.len]; exact hn
  obtain ⟨b, hb, m⟩ := R.at_ n S[n] (List.getElem?_eq_getElem hn')
  have eb : b = a := by
    rw [List.getElem?_eq_getElem hn] at hb
    exact (Option.some.inj hb).symm.trans e
  subst eb
  cases z : S[n] with
  | lst ds => rw [z] at m; obtain ⟨vs, h, _⟩ := m; rw [h]; trivial
  | dct ds => rw [z] at m; obtain ⟨vs, h, _⟩ := m; rw [h]; trivial
  | dctT ds => rw [z] at m; obtain ⟨vs, h, _⟩ := m; rw [h]; trivial
  | tab q => rw [z] at m; obtain ⟨_, vs, h, _⟩ := m; rw [h]; trivial
  | ins c fs => rw [z] at m; obtain ⟨_, ⟨_, _, _, h⟩, _⟩ := m; rw [h]; trivial
  | fdK kvs => rw [z] at m; obtain ⟨_, ⟨_, h⟩, _⟩ := m; rw [h]; trivial
  | fdT kvs => rw [z] at m; obtain ⟨_, ⟨_, h⟩, _⟩ := m; rw [h]; trivial
  | fl ds => rw [z] at m; obtain ⟨_, ⟨_, h⟩, _⟩ := m; rw [h]; trivial
theorem Ext.rdT (e : Ext M p H M' p' H') (hm : Muts p H) {a : Addr} {vs : List V} (h : SqT K H a vs) : SqT K H' a vs := by
  rcases h with (h | ⟨o, h⟩) | h
  · refine .inl (.inl (e.keep a _ h fun z => ?_))
    have := hm a z; rw [h] at this; exact this
  · refine .inl (.inr ⟨o, e.keep a _ h fun z => ?_⟩)
    have := hm a z; rw [h] at this; exact this
  · exact .inr h
theorem Ext.rdQ (e : Ext M p H M' p' H') (hm : Muts p H) {z : Bool} {a : Addr} {vs : List V} (h : TQ z K H a vs) : TQ z K H' a vs := by
  cases z with
  | false => exact e.rdT hm h
  | true =>
    rcases h with ⟨o, h, d⟩ | h
    · refine .inl ⟨o, e.keep a _ h fun z => ?_, d⟩
      have := hm a z; rw [h] at this; exact this
    · exact .inr h
theorem Ext.rdZ (e : Ext M p H M' p' H') (hm : Muts p H) {a : Addr} {vs : List V} (h : SqZ K H a vs) : SqZ K H' a vs := by
  rcases h with ⟨o, h⟩ | h
  · exact .inl ⟨o, e.fz a _ _ h⟩
  · exact .inr h
theorem rdSome {H : Hp} {a : Addr} {u : HO} (h : Rd H a u) : H a ≠ none := by
  rcases h with h | ⟨o, h⟩ <;> (rw [h]; simp)
theorem Ext.rd (e : Ext M p H M' p' H') {a : Addr} {u : HO} (h : Rd H a u) (ha : a ∉ p) : Rd H' a u := by
  rcases h with h | ⟨o, h⟩
  · exact .inl (e.keep a _ h ha)
  · exact .inr ⟨o, e.keep a _ h ha⟩
mutual
theorem RD.ext (e : Ext M p H M' p' H') (hm : Muts p H) (hM : ∀ a ∈ p, M a) : ∀ (d : D) (v : V), RD K mg M p H d v → RD K mg M' p' H' d v
  | .non, _, h => by unfold RD at h ⊢; exact h
  | .bl _, _, h => by unfold RD at h ⊢; exact h
  | .int _, _, h => by unfold RD at h ⊢; exact h
  | .str _, _, h => by unfold RD at h ⊢; exact h
  | .glo _, _, h => by unfold RD at h ⊢; exact h
  | .adr _, _, h => by unfold RD at h ⊢; exact h
  | .ref n, _, h => by
    unfold RD at h ⊢
    obtain ⟨a, h1, h2⟩ := h
    exact ⟨a, e.get h1, h2⟩
  | .tup z ds, v, h => by
    unfold RD at h ⊢
    obtain ⟨a, vs, h1, h2, h3⟩ := h
    exact ⟨a, vs, h1, e.rdQ hm h2, RDs.ext e hm hM ds vs h3⟩
  | .lst ds, v, h => by
    unfold RD at h ⊢
    obtain ⟨a, vs, h1, h2, h3, h4⟩ := h
    refine ⟨a, vs, h1, e.keep a _ h2 fun z => h3 (hM a z), fun z => ?_, RDs.ext e hm hM ds vs h4⟩
    rcases e.mm a z with z | z
    · exact h3 z
    · rw [h2] at z; cases z
  | .frz ds, v, h => by
    unfold RD at h ⊢
    obtain ⟨a, vs, h1, h2, h3⟩ := h
    exact ⟨a, vs, h1, e.rdZ hm h2, RDs.ext e hm hM ds vs h3⟩
theorem RDs.ext (e : Ext M p H M' p' H') (hm : Muts p H) (hM : ∀ a ∈ p, M a) : ∀ (ds : List D) (vs : List V), RDs K mg M p H ds vs → RDs K mg M' p' H' ds vs
  | [], _, h => by unfold RDs at h ⊢; exact h
  | d :: ds, _, h => by
    unfold RDs at h ⊢
    obtain ⟨v, r, h1, h2, h3⟩ := h
    exact ⟨v, r, h1, RD.ext e hm hM d v h2, RDs.ext e hm hM ds r h3⟩
end
theorem RKs.ext {κ : Type} (e : Ext M p H M' p' H') (hm : Muts p H) (hM : ∀ a ∈ p, M a) : ∀ (ds : List (κ × D)) (vs : List (κ × V)), RKs K mg M p H ds vs → RKs K mg M' p' H' ds vs
  | [], _, h => by unfold RKs at h ⊢; exact h
  | d :: ds, _, h => by
    unfold RKs at h ⊢
    obtain ⟨v, r, h1, h2, h3⟩ := h
    exact ⟨v, r, h1, RD.ext e hm hM _ v h2, RKs.ext e hm hM ds r h3⟩
theorem TV.ext (e : Ext M p H M' p' H') (hm : Muts p H) (hM : ∀ a ∈ p, M a) (d : D) (v : V) (h : TV K mg M p H d v) : TV K mg M' p' H' d v := by
  cases d with
  | lst ds =>
    obtain ⟨a, vs, h1, h2, h3, h4⟩ := h
    exact ⟨a, vs, h1, e.keep a _ h2 h3, e.nin (by rw [h2]; simp) h3, RDs.ext e hm hM ds vs h4⟩
  | frz ds =>
    obtain ⟨a, vs, h1, h2, h3⟩ := h
    exact ⟨a, vs, h1, e.rdZ hm h2, RDs.ext e hm hM ds vs h3⟩
  | tup z ds =>
    obtain ⟨a, vs, h1, h2, h3⟩ := h
    exact ⟨a, vs, h1, e.rdQ hm h2, RDs.ext e hm hM ds vs h3⟩
  | ref n =>
    obtain ⟨a, h1, h2⟩ := h
    exact ⟨a, e.get h1, h2⟩
  | _ => exact h
theorem RD.tv (hM : ∀ a ∈ p, M a) {d : D} {v : V} (h : RD K mg M p H d v) : TV K mg M p H d v := by
  cases d <;> first
    | (unfold RD at h; exact h)
    | (unfold RD at h; obtain ⟨a, vs, h1, h2, h3, h4⟩ := h; exact ⟨a, vs, h1, h2, fun z => h3 (hM a z), h4⟩)
/-- no list at the top -/
def D.nl : D → Bool
  | .lst _ => false
  | _ => true
theorem TV.rd {d : D} {v : V} (h : TV K mg M p H d v) (hd : d.nl = true) : RD K mg M p H d v := by
  cases d <;> first
    | (unfold RD; exact h)
    | cases hd
/-- the store where its objects stand as they were -/
theorem SR.grow (R : SR K mg M p H S) (e : Ext M p H M' p H') (hM : ∀ a ∈ p, M' a) (same : ∀ a ∈ p, H' a = H a) : SR K mg M' p H' S := by
  refine ⟨R.len, R.nd, hM, fun n o h => ?_⟩
  obtain ⟨a, ha, m⟩ := R.at_ n o h
  have hs := same a (List.mem_of_getElem? ha)
  refine ⟨a, ha, ?_⟩
  cases o with
  | lst ds => obtain ⟨vs, h1, h2⟩ := m; exact ⟨vs, hs.trans h1, RDs.ext e R.muts R.inM ds vs h2⟩
  | dct ds => obtain ⟨vs, h1, h2⟩ := m; exact ⟨vs, hs.trans h1, RKs.ext e R.muts R.inM ds vs h2⟩
  | dctT ds => obtain ⟨vs, h1, h2⟩ := m; exact ⟨vs, hs.trans h1, RKs.ext e R.muts R.inM ds vs h2⟩
  | ins c fs => obtain ⟨vs, ⟨C, dx, g1, h1⟩, h2⟩ := m; exact ⟨vs, ⟨C, dx, g1, hs.trans h1⟩, RKs.ext e R.muts R.inM fs vs h2⟩
  | fdK fs => obtain ⟨vs, ⟨q, h1⟩, h2⟩ := m; exact ⟨vs, ⟨q, hs.trans h1⟩, RKs.ext e R.muts R.inM fs vs h2⟩
  | fdT fs => obtain ⟨vs, ⟨q, h1⟩, h2⟩ := m; exact ⟨vs, ⟨q, hs.trans h1⟩, RKs.ext e R.muts R.inM fs vs h2⟩
  | fl ds => obtain ⟨vs, ⟨q, h1⟩, h2⟩ := m; exact ⟨vs, ⟨q, hs.trans h1⟩, RDs.ext e R.muts R.inM ds vs h2⟩
  | tab q =>
    obtain ⟨h0, vs, h1, h2, h3⟩ := m
    refine ⟨h0, vs, hs.trans h1, h2, fun pos cv hc => ?_⟩
    obtain ⟨u, e1, e2⟩ := h3 pos cv hc
    exact ⟨u, e1, e.keep u _ e2 fun z => by have := R.muts u z; rw [e2] at this; exact this⟩
/-- a new object at a -/
theorem Ext.new {a : Addr} {o : HO} (h : H a = none) : Ext M p H M p (upd H a o) :=
  ⟨fun b u e _ => by rw [upd_ne (ne_of_none e h)]; exact e, fun b hb => by
    by_cases z : b = a
    · rw [z, upd_same]; simp
    · rw [upd_ne z]; exact hb, ⟨[], by simp, by simp⟩, fun _ m => .inl m, fun b q u e => by rw [upd_ne (ne_of_none e h)]; exact e⟩
/-- .. that may be changed -/
theorem Ext.newM {a : Addr} {o : HO} (h : H a = none) : Ext M p H (fun b => M b ∨ b = a) p (upd H a o) :=
  ⟨(Ext.new (M := M) (p := p) h).keep, (Ext.new (M := M) (p := p) h).dom, ⟨[], by simp, by simp⟩, fun b m => m.elim .inl fun z => .inr (by rw [z]; exact h), (Ext.new (M := M) (p := p) h).fz⟩
end

/-- what a body's readings hang on: the entry (the heap, the store's addresses, what may be changed), what is wanted of an exception -/
structure Fc where
  K : PySem.W.Frag
  mg : Str → Option Value
  H0 : Hp
  p0 : List Addr
  M0 : Addr → Prop
  W : WX
  /-- what a loop around holds fast: objects, which of them may be changed, addresses of the store -/
  pn : Hp
  pM : Addr → Prop
  pp : List Addr

/-- the frame's relation -/
structure FR (c : Fc) (M : Addr → Prop) (p : List Addr) (H : Hp) (ow : Nat → Option Addr) (σ : L2.St) (ρ : Rho) (S : Sto) : Prop where
  ext : Ext c.M0 c.p0 c.H0 M p H
  M0 : ∀ a, c.M0 a → M a
  sto : SR c.K c.mg M p H S
  dom : ∀ a, M a → H a ≠ none
  own : ∀ i a, ow i = some a → M a ∧ a ∉ p ∧ c.H0 a = none
  inj : ∀ i j a, ow i = some a → ow j = some a → i = j
  slots : ∀ (i : Nat) (s : Sl), ρ[i]? = some s → SLR c.K c.mg M p H (ow i) (σ[i]?) s
  len : σ.length = ρ.length
  pin : ∀ a o, c.pn a = some o → H a = some o
  pinM : ∀ a, c.pn a ≠ none → M a → c.pM a
  pinO : ∀ i a, ow i = some a → c.pn a = none
  pinP : ∀ a ∈ p, ∀ o, c.pn a = some o → (∃ q u, o = .frz q u) ∧ a ∈ c.pp
  pinp : ∃ q, p = c.pp ++ q
  m0d : ∀ a, c.M0 a → c.H0 a ≠ none
  oln : ∀ i a, ow i = some a → ∃ vs, H a = some (.lst vs)
  bor : ∀ (i : Nat) (ds : List D), ρ[i]? = some (.bor ds) → ∃ a, σ[i]? = some (some (.ref a)) ∧ c.H0 a ≠ none

section
variable {c : Fc} {M M' M2 : Addr → Prop} {p p' p2 : List Addr} {H H' H2 : Hp} {S S' : Sto} {ow : Nat → Option Addr} {σ : L2.St} {ρ : Rho}
theorem SLR.ext {K : PySem.W.Frag} {mg : Str → Option Value} (e : Ext M p H M' p' H') (hm : Muts p H) (hM : ∀ a ∈ p, M a) {o : Option Addr} {x : Option (Option V)} (ho : ∀ a, o = some a → a ∉ p) : ∀ {s : Sl}, SLR K mg M p H o x s → SLR K mg M' p' H' o x s
  | .emp, h => h
  | .val d, ⟨h0, v, h1, h2⟩ => ⟨h0, v, h1, RD.ext e hm hM d v h2⟩
  | .own ds, ⟨a, vs, h1, h2, h3, h4⟩ => ⟨a, vs, h1, h2, e.keep a _ h3 (ho a h1), RDs.ext e hm hM ds vs h4⟩
  | .bor ds, ⟨h0, v, h1, h2⟩ => ⟨h0, v, h1, TV.ext e hm hM _ v h2⟩
theorem FR.step (R : FR c M p H ow σ ρ S) (e : Ext M p H M' p' H') (m : ∀ a, M a → M' a) (s : SR c.K c.mg M' p' H' S') (d : ∀ a, M' a → H' a ≠ none) : FR c M' p' H' ow σ ρ S' where
  ext := R.ext.trans e
  M0 := fun a h => m a (R.M0 a h)
  sto := s
  dom := d
  own := fun i a h => by
    obtain ⟨h1, h2, h3⟩ := R.own i a h
    exact ⟨m a h1, e.nin (R.dom a h1) h2, h3⟩
  inj := R.inj
  slots := fun i s h => (R.slots i s h).ext e R.sto.muts R.sto.inM fun a ha => (R.own i a ha).2.1
  len := R.len
  pin := fun a o h => by
    by_cases ha : a ∈ p
    · obtain ⟨⟨q, u, rfl⟩, _⟩ := R.pinP a ha o h
      exact e.fz a q u (R.pin a _ h)
    · exact e.keep a o (R.pin a o h) ha
  pinM := fun a h m' => by
    rcases e.mm a m' with z | z
    · exact R.pinM a h z
    · cases q : c.pn a with
      | none => exact absurd q h
      | some o => rw [R.pin a o q] at z; cases z
  pinO := R.pinO
  pinP := fun a ha => by
    obtain ⟨q, rfl, hq⟩ := e.phi
    rcases List.mem_append.mp ha with z | z
    · exact R.pinP a z
    · exact fun o w => by have := R.pin a o w; rw [hq a z] at this; cases this
  pinp := by
    obtain ⟨q, rfl, _⟩ := e.phi
    obtain ⟨r, rfl⟩ := R.pinp
    exact ⟨r ++ q, by simp⟩
  m0d := R.m0d
  oln := fun i a h => let ⟨vs, q⟩ := R.oln i a h; ⟨vs, e.keep a _ q (R.own i a h).2.1⟩
  bor := R.bor
theorem FR.new (R : FR c M p H ow σ ρ S) {a : Addr} {o : HO} (h : H a = none) : FR c M p (upd H a o) ow σ ρ S := by
  have e : Ext M p H M p (upd H a o) := Ext.new h
  have ne : ∀ b, M b → b ≠ a := fun b m z => R.dom b m (by rw [z]; exact h)
  refine R.step e (fun _ m => m) (R.sto.grow e R.sto.inM fun b hb => upd_ne (ne b (R.sto.inM b hb))) fun b m => ?_
  rw [upd_ne (ne b m)]
  exact R.dom b m
theorem FR.newM (R : FR c M p H ow σ ρ S) {a : Addr} {o : HO} (h : H a = none) : FR c (fun b => M b ∨ b = a) p (upd H a o) ow σ ρ S := by
  have e : Ext M p H (fun b => M b ∨ b = a) p (upd H a o) := Ext.newM h
  have ne : ∀ b, M b → b ≠ a := fun b m z => R.dom b m (by rw [z]; exact h)
  refine R.step e (fun _ m => .inl m) (R.sto.grow e (fun b hb => .inl (R.sto.inM b hb)) fun b hb => upd_ne (ne b (R.sto.inM b hb))) fun b m => ?_
  by_cases z : b = a
  · rw [z, upd_same]; simp
  · rw [upd_ne z]
    exact R.dom b (m.elim id fun q => absurd q z)
end

/-! ### the readings -/
/-- how a value comes: read here (t), to be kept (r), a list newly made, nobody's yet (f) -/
inductive Kd where
  | t | r | f
def Came (k : Kd) (K : PySem.W.Frag) (mg : Str → Option Value) (H : Hp) (M' : Addr → Prop) (p' : List Addr) (H' : Hp) (d : D) (v : V) : Prop :=
  match k with
  | .t => TV K mg M' p' H' d v
  | .r => RD K mg M' p' H' d v
  | .f => match d with
    | .lst ds => ∃ a vs, v = .ref a ∧ M' a ∧ a ∉ p' ∧ H a = none ∧ H' a = some (.lst vs) ∧ RDs K mg M' p' H' ds vs
    | d => RD K mg M' p' H' d v
/-- the own dict of an error holds its fields -/
def ErrAt (K : PySem.W.Frag) (mg : Str → Option Value) (M : Addr → Prop) (p : List Addr) (H : Hp) (d : Option Addr) (fs : List (Str × D)) : Prop :=
  fs = [] ∨ ∃ dx ws, d = some dx ∧ H dx = some (.xd ws) ∧ RKs K mg M p H fs ws
def RX (k : Kd) (c : Fc) (M : Addr → Prop) (p : List Addr) (H : Hp) (ow : Nat → Option Addr) (σ : L2.St) (ρ : Rho) (r : Res) (Q : VK) : Prop :=
  match r with
  | .ok d S' => ∀ v M' p' H', Ext M p H M' p' H' → (∀ a, M a → M' a) → FR c M' p' H' ow σ ρ S' → Came k c.K c.mg H M' p' H' d v → Q v H'
  | .err n fs S' => ∀ C d M' p' H', c.mg n = some (.ref C) → Ext M p H M' p' H' → (∀ a, M a → M' a) → FR c M' p' H' ow σ ρ S' → ErrAt c.K c.mg M' p' H' d fs → c.W (.ref C) d σ H'
  | .stuck => False
def TX (k : Kd) (c : Fc) (f : Fx) : TE := fun σ H Q => ∃ M p ow ρ S, FR c M p H ow σ ρ S ∧ RX k c M p H ow σ ρ (f ρ S) Q
def RB (c : Fc) (M : Addr → Prop) (p : List Addr) (H : Hp) (ow : Nat → Option Addr) (σ : L2.St) (ρ : Rho) (r : Res) (Q : Bool → Hp → Prop) : Prop :=
  match r with
  | .ok (.bl b) S' => ∀ M' p' H', Ext M p H M' p' H' → (∀ a, M a → M' a) → FR c M' p' H' ow σ ρ S' → Q b H'
  | .err n fs S' => ∀ C d M' p' H', c.mg n = some (.ref C) → Ext M p H M' p' H' → (∀ a, M a → M' a) → FR c M' p' H' ow σ ρ S' → ErrAt c.K c.mg M' p' H' d fs → c.W (.ref C) d σ H'
  | _ => False
def TB (c : Fc) (f : Fx) : TT := fun σ H Q => ∃ M p ow ρ S, FR c M p H ow σ ρ S ∧ RB c M p H ow σ ρ (f ρ S) Q
/-- what a body hands back, from the entry's sight -/
def Back (c : Fc) (d : D) (S' : Sto) (Q : VK) : Prop := ∀ v M' p' H', Ext c.M0 c.p0 c.H0 M' p' H' → (∀ a, c.M0 a → M' a) → SR c.K c.mg M' p' H' S' → (∀ a, M' a → H' a ≠ none) → Came .f c.K c.mg c.H0 M' p' H' d v → Q v H'
def RS (c : Fc) (r : SRes) (D : Ends) : Prop :=
  match r with
  | .nx ρ' S' => ∀ σ' M' p' H' ow', FR c M' p' H' ow' σ' ρ' S' → D.nx σ' H'
  | .ret d S' => Back c d S' D.rt
  | .brk ρ' S' => ∀ σ' M' p' H' ow', FR c M' p' H' ow' σ' ρ' S' → D.bk σ' H'
  | .ct ρ' S' => ∀ σ' M' p' H' ow', FR c M' p' H' ow' σ' ρ' S' → D.ct σ' H'
  | .err n fs ρ' S' => ∀ C d σ' M' p' H' ow', c.mg n = some (.ref C) → FR c M' p' H' ow' σ' ρ' S' → ErrAt c.K c.mg M' p' H' d fs → c.W (.ref C) d σ' H'
  | .stuck => False
def TSx (c : Fc) (g : Gx) : TS := fun D σ H => ∃ M p ow ρ S, FR c M p H ow σ ρ S ∧ RS c (g ρ S) D
end QL

set_option Elab.async false
set_option linter.all false
set_option maxRecDepth 100000
/-! QB: the first rules -/
namespace QL
open PySem PySem.Spec PyProof.Rows L2

/-! ### the plumbing -/
theorem peW {X : Cx} {e : Expr} {t t' : TE} (h : PE X e t) (w : ∀ σ H Q, t' σ H Q → t σ H Q) : PE X e t' := ⟨fun pins s σ H Q I q => h.run pins s σ H Q I (w σ H Q q)⟩
theorem ptW {X : Cx} {e : Expr} {t t' : TT} (h : PT X e t) (w : ∀ σ H Q, t' σ H Q → t σ H Q) : PT X e t' := ⟨fun pins s σ H Q I q => h.run pins s σ H Q I (w σ H Q q)⟩
theorem pwW {X : Cx} {e : Expr} {t t' : TT} (h : PW X e t) (w : ∀ σ H Q, t' σ H Q → t σ H Q) : PW X e t' := ⟨fun wh pins s σ H Q I q => h.run wh pins s σ H Q I (w σ H Q q)⟩
theorem paW {X : Cx} {e : List Expr} {t t' : TA} (h : PA X e t) (w : ∀ σ H Q, t' σ H Q → t σ H Q) : PA X e t' := ⟨fun pos pins s σ H Q I q => h.run pos pins s σ H Q I (w σ H Q q)⟩
theorem psW {X : Cx} {e : Stmt} {t t' : TS} (h : PS X e t) (w : ∀ D σ H, t' D σ H → t D σ H) : PS X e t' := ⟨fun pins s σ H D I q => h.run pins s σ H D I (w D σ H q)⟩
theorem pssW {X : Cx} {e : List Stmt} {t t' : TS} (h : PSs X e t) (w : ∀ D σ H, t' D σ H → t D σ H) : PSs X e t' := ⟨fun pins s σ H D I q => h.run pins s σ H D I (w D σ H q)⟩

def Res.bind (r : Res) (k : D → Sto → Res) : Res := match r with
  | .ok d S => k d S
  | .err n fs S => .err n fs S
  | .stuck => .stuck
def lift (o : Option D) (S : Sto) : Res := match o with
  | some d => .ok d S
  | none => .stuck
section
variable {c : Fc} {M M' M2 : Addr → Prop} {p p' p2 : List Addr} {H H' H2 : Hp} {S S' : Sto} {ow : Nat → Option Addr} {σ : L2.St} {ρ : Rho} {k k' : Kd} {Q Q' : VK} {r : Res}
theorem Came.back {K : PySem.W.Frag} {mg : Str → Option Value} {d : D} {v : V} (e : Ext M p H M' p' H') (h : Came k K mg H' M2 p2 H2 d v) : Came k K mg H M2 p2 H2 d v := by
  cases k with
  | t => exact h
  | r => exact h
  | f =>
    cases d with
    | lst ds => obtain ⟨a, vs, h1, h2, h3, h4, h5⟩ := h; exact ⟨a, vs, h1, h2, h3, e.back h4, h5⟩
    | _ => exact h
theorem RX.mono (h : RX k c M p H ow σ ρ r Q) (w : ∀ v H, Q v H → Q' v H) : RX k c M p H ow σ ρ r Q' := by
  cases r with
  | ok d S => exact fun v M' p' H' e m R t => w _ _ (h v M' p' H' e m R t)
  | err n fs S => exact h
  | stuck => exact h
/-- from a later heap -/
theorem RX.later (h : RX k c M p H ow σ ρ r Q) (e : Ext M p H M' p' H') (m : ∀ a, M a → M' a) : RX k c M' p' H' ow σ ρ r Q := by
  cases r with
  | ok d S => exact fun v M2 p2 H2 e2 m2 R t => h v M2 p2 H2 (e.trans e2) (fun a z => m2 a (m a z)) R (t.back e)
  | err n fs S => exact fun C d M2 p2 H2 hc e2 m2 R t => h C d M2 p2 H2 hc (e.trans e2) (fun a z => m2 a (m a z)) R t
  | stuck => exact h
theorem RB.later {Q : Bool → Hp → Prop} (h : RB c M p H ow σ ρ r Q) (e : Ext M p H M' p' H') (m : ∀ a, M a → M' a) : RB c M' p' H' ow σ ρ r Q := by
  cases r with
  | ok d S => cases d with
    | bl b => exact fun M2 p2 H2 e2 m2 R => h M2 p2 H2 (e.trans e2) (fun a z => m2 a (m a z)) R
    | _ => exact h
  | err n fs S => exact fun C d M2 p2 H2 hc e2 m2 R t => h C d M2 p2 H2 hc (e.trans e2) (fun a z => m2 a (m a z)) R t
  | stuck => exact h
/-- a part is read first, what follows goes on from where it leaves -/
theorem RX.bind {f : D → Sto → Res} (h : RX k c M p H ow σ ρ (r.bind f) Q) :
    RX k' c M p H ow σ ρ r fun v H1 => ∃ d S1 M1 p1, Ext M p H M1 p1 H1 ∧ FR c M1 p1 H1 ow σ ρ S1 ∧ Came k' c.K c.mg H M1 p1 H1 d v ∧ RX k c M1 p1 H1 ow σ ρ (f d S1) Q := by
  cases r with
  | ok d S => exact fun v M1 p1 H1 e m R t => ⟨d, S, M1, p1, e, R, t, RX.later h e m⟩
  | err n fs S => exact h
  | stuck => exact h
theorem RB.bind {f : D → Sto → Res} {Q : Bool → Hp → Prop} (h : RB c M p H ow σ ρ (r.bind f) Q) :
    RX k' c M p H ow σ ρ r fun v H1 => ∃ d S1 M1 p1, Ext M p H M1 p1 H1 ∧ FR c M1 p1 H1 ow σ ρ S1 ∧ Came k' c.K c.mg H M1 p1 H1 d v ∧ RB c M1 p1 H1 ow σ ρ (f d S1) Q := by
  cases r with
  | ok d S => exact fun v M1 p1 H1 e m R t => ⟨d, S, M1, p1, e, R, t, RB.later h e m⟩
  | err n fs S => exact h
  | stuck => exact h
theorem Came.t_of {K : PySem.W.Frag} {mg : Str → Option Value} {d : D} {v : V} (hM : ∀ a ∈ p', M' a) (h : Came k K mg H M' p' H' d v) : Came .t K mg H M' p' H' d v := by
  cases k with
  | t => exact h
  | r => exact RD.tv hM h
  | f =>
    cases d with
    | lst ds => obtain ⟨a, vs, h1, h2, h3, h4, h5, h6⟩ := h; exact ⟨a, vs, h1, h5, h3, h6⟩
    | _ => exact RD.tv hM h
end
/-- to be kept, or newly made: so it is read, too -/
theorem toT {X : Cx} {c : Fc} {e : Expr} {f : Fx} {k : Kd} (h : PE X e (TX k c f)) : PE X e (TX .t c f) := peW h fun σ H Q ⟨M, p, ow, ρ, S, R, h⟩ => ⟨M, p, ow, ρ, S, R, by
  cases z : f ρ S with
  | ok d S' => rw [z] at h; exact fun v M' p' H' e m R t => h v M' p' H' e m R (t.t_of R.sto.inM)
  | err n fs S' => rw [z] at h; exact h
  | stuck => rw [z] at h; exact h⟩
/-- no list: kept -/
def fNl (f : Fx) : Fx := fun ρ S => (f ρ S).bind fun d S => if d.nl then .ok d S else .stuck
theorem toR {X : Cx} {c : Fc} {e : Expr} {f : Fx} (h : PE X e (TX .t c f)) : PE X e (TX .r c (fNl f)) := peW h fun σ H Q ⟨M, p, ow, ρ, S, R, h⟩ => ⟨M, p, ow, ρ, S, R, by
  unfold fNl at h
  refine (RX.bind (k' := .t) h).mono fun v H1 ⟨d, S1, M1, p1, e1, R1, t1, h1⟩ => ?_
  by_cases hd : d.nl = true
  · rw [if_pos hd] at h1
    exact h1 v M1 p1 H1 .refl (fun _ m => m) R1 (TV.rd t1 hd)
  · rw [if_neg hd] at h1
    exact h1.elim⟩
theorem rToF {X : Cx} {c : Fc} {e : Expr} {f : Fx} (h : PE X e (TX .t c f)) : PE X e (TX .f c (fNl f)) := peW h fun σ H Q ⟨M, p, ow, ρ, S, R, h⟩ => ⟨M, p, ow, ρ, S, R, by
  unfold fNl at h
  refine (RX.bind (k' := .t) h).mono fun v H1 ⟨d, S1, M1, p1, e1, R1, t1, h1⟩ => ?_
  by_cases hd : d.nl = true
  · rw [if_pos hd] at h1
    refine h1 v M1 p1 H1 .refl (fun _ m => m) R1 ?_
    have q := TV.rd t1 hd
    cases d with
    | lst ds => cases hd
    | _ => exact q
  · rw [if_neg hd] at h1
    exact h1.elim⟩

/-! ### names, constants -/
def fVar (i : Nat) : Fx := fun ρ S => match ρ[i]? with
  | some (.val d) => .ok d S
  | some (.own ds) => .ok (.lst ds) S
  | some (.bor ds) => .ok (.lst ds) S
  | _ => .stuck
def fVarR (i : Nat) : Fx := fun ρ S => match ρ[i]? with
  | some (.val d) => .ok d S
  | _ => .stuck
def fC (d : D) : Fx := fun _ S => .ok d S
section
variable {X : Cx} {c : Fc} {x : Str} {pos : Pos}
theorem qv (i : Nat) (hN : X.N[i]? = some x := by rfl) (hv : Vis X.env.scope x := by first | exact Or.inl rfl | exact Or.inr (Or.inl rfl) | exact Or.inr (Or.inr rfl)) (hd : (x == ("__debug__" : Str)) = false := by decide)
    (hcd : (x == ("__classdict__" : Str)) = false := by decide) : PE X (.Name x pos) (TX .t c (fVar i)) := peW (pe_var hN hv hd hcd) fun σ H Q ⟨M, p, ow, ρ, S, R, h⟩ => by
  unfold fVar at h
  cases e : ρ[i]? with
  | none => rw [e] at h; exact h.elim
  | some s =>
    rw [e] at h
    have q := R.slots i s e
    cases s with
    | emp => exact h.elim
    | val d =>
      obtain ⟨_, v, h1, h2⟩ := q
      exact ⟨v, h1, h v M p H .refl (fun _ m => m) R (RD.tv R.sto.inM h2)⟩
    | own ds =>
      obtain ⟨a, vs, h1, h2, h3, h4⟩ := q
      exact ⟨.ref a, h2, h _ M p H .refl (fun _ m => m) R ⟨a, vs, rfl, h3, (R.own i a h1).2.1, h4⟩⟩
    | bor ds =>
      obtain ⟨_, v, h1, h2⟩ := q
      exact ⟨v, h1, h v M p H .refl (fun _ m => m) R h2⟩
theorem qvR (i : Nat) (hN : X.N[i]? = some x := by rfl) (hv : Vis X.env.scope x := by first | exact Or.inl rfl | exact Or.inr (Or.inl rfl) | exact Or.inr (Or.inr rfl)) (hd : (x == ("__debug__" : Str)) = false := by decide)
    (hcd : (x == ("__classdict__" : Str)) = false := by decide) : PE X (.Name x pos) (TX .r c (fVarR i)) := peW (pe_var hN hv hd hcd) fun σ H Q ⟨M, p, ow, ρ, S, R, h⟩ => by
  unfold fVarR at h
  cases e : ρ[i]? with
  | none => rw [e] at h; exact h.elim
  | some s =>
    rw [e] at h
    have q := R.slots i s e
    cases s with
    | val d =>
      obtain ⟨_, v, h1, h2⟩ := q
      exact ⟨v, h1, h v M p H .refl (fun _ m => m) R h2⟩
    | _ => exact h.elim
theorem qC {e : Expr} {v : V} {d : D} (h : PE X e (tC v)) (hd : ∀ M p H, RD c.K c.mg M p H d v) : PE X e (TX .r c (fC d)) := peW h fun σ H Q ⟨M, p, ow, ρ, S, R, h⟩ => h v M p H .refl (fun _ m => m) R (hd M p H)
theorem qInt {i j} : PE X (.Constant (.int i) j pos) (TX .r c (fC (.int i))) := qC pe_int fun _ _ _ => by unfold RD; rfl
theorem qBl {b j} : PE X (.Constant (.bool b) j pos) (TX .r c (fC (.bl b))) := qC pe_bl fun _ _ _ => by unfold RD; rfl
theorem qNon {j} : PE X (.Constant .none j pos) (TX .r c (fC .non)) := qC pe_non fun _ _ _ => by unfold RD; rfl
theorem qStr {x j} : PE X (.Constant (.str x) j pos) (TX .r c (fC (.str x))) := qC pe_str fun _ _ _ => by unfold RD; rfl
/-- a def, a class of the module as a value -/
theorem qGlo {v : V} {u : Value} (hg : Gl X x) (hm : X.mg x = some u) (hc : c.mg = X.mg) (r : RelV v u) (hd : (x == ("__debug__" : Str)) = false := by decide) : PE X (.Name x pos) (TX .r c (fC (.glo x))) :=
  qC (pe_glob hg hm r hd) fun _ _ _ => by unfold RD; exact ⟨u, by rw [hc]; exact hm, r⟩
/-- a constant of the module -/
theorem qCon {v : V} {u : Value} {d : D} (hg : Gl X x) (hm : X.mg x = some u) (r : RelV v u) (h : ∀ M p H, RD c.K c.mg M p H d v) (hd : (x == ("__debug__" : Str)) = false := by decide) : PE X (.Name x pos) (TX .r c (fC d)) := qC (pe_glob hg hm r hd) h
end

/-! ### operators by value -/
/-- an answer by value, from the heap H -/
def Ans (k : Kd) (K : PySem.W.Frag) (mg : Str → Option Value) (M : Addr → Prop) (p : List Addr) (H : Hp) (S : Sto) (x : D) (Q : VK) : Prop :=
  ∀ y M' p' H', Ext M p H M' p' H' → (∀ a, M a → M' a) → SR K mg M' p' H' S → (∀ a, M' a → H' a ≠ none) → Came k K mg H M' p' H' x y → Q y H'
def Op2Ok (k : Kd) (K : PySem.W.Frag) (mg : Str → Option Value) (r : R2) (g : D → D → Option D) : Prop :=
  ∀ M p H S d e v w x Q, SR K mg M p H S → (∀ a, M a → H a ≠ none) → TV K mg M p H d v → TV K mg M p H e w → g d e = some x → Ans k K mg M p H S x Q → r v w H Q
def Op1Ok (k : Kd) (K : PySem.W.Frag) (mg : Str → Option Value) (r : V → Hp → VK → Prop) (g : D → Option D) : Prop :=
  ∀ M p H S d v x Q, SR K mg M p H S → (∀ a, M a → H a ≠ none) → TV K mg M p H d v → g d = some x → Ans k K mg M p H S x Q → r v H Q
def f2 (g : D → D → Option D) (fa fb : Fx) : Fx := fun ρ S => (fa ρ S).bind fun d S => (fb ρ S).bind fun e S => lift (g d e) S
def f1 (g : D → Option D) (fa : Fx) : Fx := fun ρ S => (fa ρ S).bind fun d S => lift (g d) S
section
variable {X : Cx} {c : Fc} {x : Str} {pos : Pos} {a b : Expr} {fa fb : Fx} {k : Kd} {g : D → D → Option D} {g1 : D → Option D}
theorem Ans.of {M : Addr → Prop} {p : List Addr} {H : Hp} {S : Sto} {ow : Nat → Option Addr} {σ : L2.St} {ρ : Rho} {x : D} {Q : VK} (R : FR c M p H ow σ ρ S) (h : RX k c M p H ow σ ρ (.ok x S) Q) : Ans k c.K c.mg M p H S x Q :=
  fun y M' p' H' e m s d cm => h y M' p' H' e m (R.step e m s d) cm
theorem two {r : R2} (hr : Op2Ok k c.K c.mg r g) (σ : L2.St) (H : Hp) (Q : VK) (h : TX k c (f2 g fa fb) σ H Q) : TX .t c fa σ H fun v H1 => TX .t c fb σ H1 fun w H2 => r v w H2 Q := by
  obtain ⟨M, p, ow, ρ, S, R, h⟩ := h
  refine ⟨M, p, ow, ρ, S, R, (RX.bind (k' := .t) h).mono fun v H1 ⟨d, S1, M1, p1, e1, R1, t1, h1⟩ => ⟨M1, p1, ow, ρ, S1, R1, (RX.bind (k' := .t) h1).mono fun w H2 ⟨e, S2, M2, p2, e2, R2, t2, h2⟩ => ?_⟩⟩
  cases z : g d e with
  | none => rw [z] at h2; exact h2.elim
  | some x => rw [z] at h2; exact hr M2 p2 H2 S2 d e v w x Q R2.sto R2.dom (TV.ext e2 R1.sto.muts R1.sto.inM d v t1) t2 z (Ans.of R2 h2)
theorem one {r : V → Hp → VK → Prop} (hr : Op1Ok k c.K c.mg r g1) (σ : L2.St) (H : Hp) (Q : VK) (h : TX k c (f1 g1 fa) σ H Q) : TX .t c fa σ H fun v H1 => r v H1 Q := by
  obtain ⟨M, p, ow, ρ, S, R, h⟩ := h
  refine ⟨M, p, ow, ρ, S, R, (RX.bind (k' := .t) h).mono fun v H1 ⟨d, S1, M1, p1, e1, R1, t1, h1⟩ => ?_⟩
  cases z : g1 d with
  | none => rw [z] at h1; exact h1.elim
  | some x => rw [z] at h1; exact hr M1 p1 H1 S1 d v x Q R1.sto R1.dom t1 z (Ans.of R1 h1)
theorem qOp {op : Operator} {r : R2} (ho : OpR X (binaryOp op) r) (hr : Op2Ok k c.K c.mg r g) (ha : PE X a (TX .t c fa)) (hb : PE X b (TX .t c fb)) : PE X (.BinOp a op b pos) (TX k c (f2 g fa fb)) := peW (pe_op ho ha hb) (two hr)
theorem qUn {op : UnaryOp} {r : V → Hp → VK → Prop} (ho : UnR X (unaryOp op) r) (hr : Op1Ok k c.K c.mg r g1) (ha : PE X a (TX .t c fa)) : PE X (.UnaryOp op a pos) (TX k c (f1 g1 fa)) := peW (pe_un ho ha) (one hr)
theorem qCmp {op : CmpOp} {r : R2} (ho : OpR X (compareOp op) r) (hr : Op2Ok k c.K c.mg r g) (ha : PE X a (TX .t c fa)) (hb : PE X b (TX .t c fb)) (hm : behindInMarks op b = false) : PE X (.Compare a [op] [b] pos) (TX k c (f2 g fa fb)) := peW (pe_cmpR ho ha hb hm) (two hr)
/-- a comparison as a test -/
theorem qCmpT {op : CmpOp} {r : R2} (ho : OpR X (compareOp op) r) (hr : Op2Ok .t c.K c.mg r g) (ha : PE X a (TX .t c fa)) (hb : PE X b (TX .t c fb)) (hm : behindInMarks op b = false) : PT X (.Compare a [op] [b] pos) (TB c (f2 g fa fb)) := by
  refine ptW (pt_cmpR ho ha hb hm) fun σ H Q ⟨M, p, ow, ρ, S, R, h⟩ => ?_
  refine two (k := .t) (g := g) hr σ H _ ⟨M, p, ow, ρ, S, R, ?_⟩
  cases z : f2 g fa fb ρ S with
  | stuck => rw [z] at h; exact h
  | err n fs S' => rw [z] at h; exact h
  | ok d S' =>
    rw [z] at h
    cases d with
    | bl b => exact fun v M' p' H' e m R t => ⟨b, t, h M' p' H' e m R⟩
    | _ => exact h.elim
end
end QL

set_option Elab.async false
set_option linter.all false
set_option maxRecDepth 100000
/-! QC: operators by value -/
namespace QL
open PySem PySem.Spec PyProof.Rows L2

/-! ### answers -/
section
variable {K : PySem.W.Frag} {mg : Str → Option Value} {M : Addr → Prop} {p : List Addr} {H : Hp} {S : Sto} {Q : VK}
/-- a scalar's value -/
def D.sc : D → Option V
  | .non => some .non
  | .bl b => some (.bl b)
  | .int i => some (.int i)
  | .str x => some (.str x)
  | _ => none
theorem Ans.sc {d : D} {v : V} (R : SR K mg M p H S) (hd : ∀ a, M a → H a ≠ none) (h : Ans .f K mg M p H S d Q) (e : d.sc = some v) : Q v H := by
  refine h v M p H .refl (fun _ m => m) R hd ?_
  cases d <;> first | (cases e; unfold Came RD; rfl) | cases e
theorem Ans.bl {b : Bool} (R : SR K mg M p H S) (hd : ∀ a, M a → H a ≠ none) (h : Ans .f K mg M p H S (.bl b) Q) : Q (.bl b) H := h.sc R hd rfl
theorem Ans.int {i : Int} (R : SR K mg M p H S) (hd : ∀ a, M a → H a ≠ none) (h : Ans .f K mg M p H S (.int i) Q) : Q (.int i) H := h.sc R hd rfl
theorem Ans.str {i : Str} (R : SR K mg M p H S) (hd : ∀ a, M a → H a ≠ none) (h : Ans .f K mg M p H S (.str i) Q) : Q (.str i) H := h.sc R hd rfl
theorem nofree {a : Addr} (h : H a = none) (hd : ∀ a, M a → H a ≠ none) {b : Addr} (m : M b) : b ≠ a := fun z => hd b m (by rw [z]; exact h)
theorem SR.new (R : SR K mg M p H S) (hd : ∀ a, M a → H a ≠ none) {a : Addr} {o : HO} (h : H a = none) : SR K mg M p (upd H a o) S :=
  R.grow (Ext.new h) R.inM fun b hb => upd_ne (nofree h hd (R.inM b hb))
theorem SR.newM (R : SR K mg M p H S) (hd : ∀ a, M a → H a ≠ none) {a : Addr} {o : HO} (h : H a = none) : SR K mg (fun b => M b ∨ b = a) p (upd H a o) S :=
  R.grow (Ext.newM h) (fun b hb => .inl (R.inM b hb)) fun b hb => upd_ne (nofree h hd (R.inM b hb))
theorem dom_new (hd : ∀ a, M a → H a ≠ none) {a : Addr} {o : HO} (h : H a = none) : ∀ b, M b → upd H a o b ≠ none := fun b m => by rw [upd_ne (nofree h hd m)]; exact hd b m
theorem dom_newM (hd : ∀ a, M a → H a ≠ none) {a : Addr} {o : HO} (h : H a = none) : ∀ b, (M b ∨ b = a) → upd H a o b ≠ none := fun b m => by
  by_cases z : b = a
  · rw [z, upd_same]; simp
  · rw [upd_ne z]; exact hd b (m.elim id fun q => absurd q z)
theorem RDs.length : ∀ {ds : List D} {vs : List V}, RDs K mg M p H ds vs → vs.length = ds.length
  | [], _, h => by unfold RDs at h; subst h; rfl
  | d :: ds, _, h => by
    unfold RDs at h
    obtain ⟨v, r, rfl, _, h3⟩ := h
    rw [List.length_cons, List.length_cons, RDs.length h3]
theorem RDs.nil : RDs K mg M p H [] [] := by unfold RDs; rfl
theorem RDs.cons {d : D} {v : V} {ds : List D} {vs : List V} (h : RD K mg M p H d v) (r : RDs K mg M p H ds vs) : RDs K mg M p H (d :: ds) (v :: vs) := by
  unfold RDs; exact ⟨v, vs, rfl, h, r⟩
theorem RDs.append : ∀ {ds : List D} {vs : List V} {es : List D} {ws : List V}, RDs K mg M p H ds vs → RDs K mg M p H es ws → RDs K mg M p H (ds ++ es) (vs ++ ws)
  | [], _, _, _, h, h' => by unfold RDs at h; subst h; exact h'
  | d :: ds, _, _, _, h, h' => by
    unfold RDs at h
    obtain ⟨v, r, rfl, h2, h3⟩ := h
    exact RDs.cons h2 (RDs.append h3 h')
theorem RDs.get : ∀ {ds : List D} {vs : List V} {i : Nat} {d : D}, RDs K mg M p H ds vs → ds[i]? = some d → ∃ v, vs[i]? = some v ∧ RD K mg M p H d v
  | [], _, _, _, _, e => by simp at e
  | d :: ds, _, 0, _, h, e => by
    unfold RDs at h
    obtain ⟨v, r, rfl, h2, h3⟩ := h
    simp at e; subst e
    exact ⟨v, rfl, h2⟩
  | d :: ds, _, i + 1, _, h, e => by
    unfold RDs at h
    obtain ⟨v, r, rfl, h2, h3⟩ := h
    obtain ⟨w, e1, e2⟩ := RDs.get (i := i) h3 (by simpa using e)
    exact ⟨w, by simpa using e1, e2⟩
theorem RDs.take : ∀ {ds : List D} {vs : List V} (n : Nat), RDs K mg M p H ds vs → RDs K mg M p H (ds.take n) (vs.take n)
  | _, _, 0, _ => RDs.nil
  | [], _, _ + 1, h => by unfold RDs at h; subst h; exact RDs.nil
  | d :: ds, _, n + 1, h => by
    unfold RDs at h
    obtain ⟨v, r, rfl, h2, h3⟩ := h
    exact RDs.cons h2 (RDs.take n h3)
theorem RDs.drop : ∀ {ds : List D} {vs : List V} (n : Nat), RDs K mg M p H ds vs → RDs K mg M p H (ds.drop n) (vs.drop n)
  | _, _, 0, h => h
  | [], _, _ + 1, h => by unfold RDs at h; subst h; exact RDs.nil
  | d :: ds, _, n + 1, h => by
    unfold RDs at h
    obtain ⟨v, r, rfl, h2, h3⟩ := h
    exact RDs.drop n h3
theorem RDs.set : ∀ {ds : List D} {vs : List V} (i : Nat) {d : D} {v : V}, RDs K mg M p H ds vs → RD K mg M p H d v → RDs K mg M p H (ds.set i d) (vs.set i v)
  | [], _, _, _, _, h, _ => by unfold RDs at h; subst h; exact RDs.nil
  | d :: ds, _, 0, _, _, h, h' => by
    unfold RDs at h
    obtain ⟨v, r, rfl, h2, h3⟩ := h
    exact RDs.cons h' h3
  | d :: ds, _, n + 1, _, _, h, h' => by
    unfold RDs at h
    obtain ⟨v, r, rfl, h2, h3⟩ := h
    exact RDs.cons h2 (RDs.set n h3 h')
theorem RDs.rev : ∀ {ds : List D} {vs : List V}, RDs K mg M p H ds vs → RDs K mg M p H ds.reverse vs.reverse
  | [], _, h => by unfold RDs at h; subst h; exact RDs.nil
  | d :: ds, _, h => by
    unfold RDs at h
    obtain ⟨v, r, rfl, h2, h3⟩ := h
    rw [List.reverse_cons, List.reverse_cons]
    exact RDs.append (RDs.rev h3) (RDs.cons h2 RDs.nil)
theorem RDs.flat : ∀ {n : Nat} {ds : List D} {vs : List V}, RDs K mg M p H ds vs → RDs K mg M p H (List.replicate n ds).flatten (List.replicate n vs).flatten
  | 0, _, _, _ => RDs.nil
  | n + 1, _, _, h => by
    rw [List.replicate_succ, List.replicate_succ, List.flatten_cons, List.flatten_cons]
    exact RDs.append h (RDs.flat h)
/-- a new tuple -/
theorem Ans.tup {z : Bool} {ds : List D} {vs : List V} (R : SR K mg M p H S) (hd : ∀ a, M a → H a ≠ none) (h : Ans .f K mg M p H S (.tup z ds) Q) (r : RDs K mg M p H ds vs) : NewT H vs Q := fun a its ha => by
  refine h _ M p _ (Ext.new ha) (fun _ m => m) (R.new hd ha) (dom_new hd ha) ?_
  unfold Came RD
  exact ⟨a, vs, rfl, TupZ.tq (.inl ⟨_, upd_same, rfl⟩), RDs.ext (Ext.new ha) R.muts R.inM ds vs r⟩
/-- .. where nothing is known of its dict -/
theorem Ans.tupW {ds : List D} {vs : List V} (R : SR K mg M p H S) (hd : ∀ a, M a → H a ≠ none) (h : Ans .f K mg M p H S (.tup false ds) Q) (r : RDs K mg M p H ds vs) {a : Addr} (ha : H a = none) : Q (.ref a) (upd H a (.tup vs)) := by
  refine h _ M p _ (Ext.new ha) (fun _ m => m) (R.new hd ha) (dom_new hd ha) ?_
  unfold Came RD
  exact ⟨a, vs, rfl, SqT.of upd_same, RDs.ext (Ext.new ha) R.muts R.inM ds vs r⟩
/-- a tuple that stands -/
theorem Ans.tupOf {z : Bool} {ds : List D} {vs : List V} {a : Addr} (R : SR K mg M p H S) (hd : ∀ a, M a → H a ≠ none) (h : Ans .f K mg M p H S (.tup z ds) Q) (t : TQ z K H a vs) (r : RDs K mg M p H ds vs) : Q (.ref a) H := by
  refine h _ M p _ .refl (fun _ m => m) R hd ?_
  unfold Came RD
  exact ⟨a, vs, rfl, t, r⟩
/-- a new list -/
theorem Ans.lst {ds : List D} {vs : List V} (R : SR K mg M p H S) (hd : ∀ a, M a → H a ≠ none) (h : Ans .f K mg M p H S (.lst ds) Q) (r : RDs K mg M p H ds vs) {a : Addr} (ha : H a = none) : Q (.ref a) (upd H a (.lst vs)) := by
  refine h _ (fun b => M b ∨ b = a) p _ (Ext.newM ha) (fun _ m => .inl m) (R.newM hd ha) (dom_newM hd ha) ?_
  exact ⟨a, vs, rfl, .inr rfl, fun z => nofree ha hd (R.inM a z) rfl, ha, upd_same, RDs.ext (Ext.newM ha) R.muts R.inM ds vs r⟩
/-- any value that is kept -/
theorem Ans.rd {d : D} {v : V} (R : SR K mg M p H S) (hd : ∀ a, M a → H a ≠ none) (h : Ans .r K mg M p H S d Q) (r : RD K mg M p H d v) : Q v H := h v M p H .refl (fun _ m => m) R hd r
end

/-! ### data -/
mutual
def D.py : D → PyData
  | .non => .none
  | .bl b => .bool b
  | .int i => .int i
  | .str x => .str x
  | .tup _ ds => .tuple (D.pys ds)
  | .lst ds => .list (D.pys ds)
  | .frz ds => .list (D.pys ds)
  | .ref _ => .dict []
  | .glo _ => .dict []
  | .adr _ => .dict []
def D.pys : List D → List PyData
  | [] => []
  | d :: ds => D.py d :: D.pys ds
end
section
variable {K : PySem.W.Frag} {mg : Str → Option Value} {M : Addr → Prop} {p : List Addr} {H : Hp}
mutual
theorem RD.dp : ∀ (d : D) (v : V), RD K mg M p H d v → d.py.canLay0 = true → Dp K H v d.py
  | .non, _, h, _ => by unfold RD at h; subst h; exact .non
  | .bl b, _, h, _ => by unfold RD at h; subst h; exact .bl b
  | .int i, _, h, _ => by unfold RD at h; subst h; exact .int i
  | .str x, _, h, _ => by unfold RD at h; subst h; exact .str x
  | .tup z ds, _, h, l => by
    unfold RD at h
    obtain ⟨a, vs, rfl, h2, h3⟩ := h
    unfold D.py
    refine .tup h2.sq (RDs.dp ds vs h3 ?_)
    unfold D.py PyData.canLay0 at l; exact l
  | .lst ds, _, h, l => by
    unfold RD at h
    obtain ⟨a, vs, rfl, h2, _, h3⟩ := h
    unfold D.py
    refine .lst (SqL.of h2) (RDs.dp ds vs h3 ?_)
    unfold D.py PyData.canLay0 at l; exact l
  | .frz ds, _, h, l => by
    unfold RD at h
    obtain ⟨a, vs, rfl, h2, h3⟩ := h
    unfold D.py
    refine .lst h2.sq (RDs.dp ds vs h3 ?_)
    unfold D.py PyData.canLay0 at l; exact l
  | .ref _, _, _, l => by unfold D.py PyData.canLay0 at l; cases l
  | .glo _, _, _, l => by unfold D.py PyData.canLay0 at l; cases l
  | .adr _, _, _, l => by unfold D.py PyData.canLay0 at l; cases l
theorem RDs.dp : ∀ (ds : List D) (vs : List V), RDs K mg M p H ds vs → PyData.canLayAll0 (D.pys ds) = true → DpAll K H vs (D.pys ds)
  | [], _, h, _ => by unfold RDs at h; subst h; unfold D.pys; exact .nil
  | d :: ds, _, h, l => by
    unfold RDs at h
    obtain ⟨v, r, rfl, h2, h3⟩ := h
    unfold D.pys at l ⊢
    unfold PyData.canLayAll0 at l
    rw [Bool.and_eq_true] at l
    exact .cons (RD.dp d v h2 l.1) (RDs.dp ds r h3 l.2)
end
theorem TV.dp {d : D} {v : V} (h : TV K mg M p H d v) (l : d.py.canLay0 = true) : Dp K H v d.py := by
  cases d with
  | lst ds =>
    obtain ⟨a, vs, rfl, h2, _, h3⟩ := h
    unfold D.py
    refine .lst (SqL.of h2) (RDs.dp ds vs h3 ?_)
    unfold D.py PyData.canLay0 at l; exact l
  | _ => exact RD.dp _ _ (TV.rd h rfl) l
end
theorem shaped_lay {d : PyData} (h : SeqAt.shaped d = true) : d.canLay0 = true := by
  unfold SeqAt.shaped at h
  rw [Bool.and_eq_true] at h
  exact h.1

/-! ### == -/
def dEqB : D → D → Option Bool
  | .int i, .int j => some (decide (i = j))
  | .str i, .str j => some (decide (i = j))
  | .bl i, .bl j => some (decide (i = j))
  | .non, .non => some true
  | .non, .int _ => some false | .int _, .non => some false | .non, .str _ => some false | .str _, .non => some false | .non, .bl _ => some false | .bl _, .non => some false
  | .int _, .str _ => some false | .str _, .int _ => some false | .bl _, .str _ => some false | .str _, .bl _ => some false
  | d, e => if SeqAt.shaped d.py = true ∧ SeqAt.shaped e.py = true then some (PyData.eqv d.py e.py) else none
def dEq (d e : D) : Option D := (dEqB d e).map D.bl
def dNe (d e : D) : Option D := (dEqB d e).map fun b => .bl !b
theorem decV {α : Type} [DecidableEq α] (f : α → V) (hf : ∀ a b, f a = f b → a = b) (a b : α) : decide (f a = f b) = decide (a = b) := by
  by_cases h : a = b
  · subst h; simp
  · rw [decide_eq_false h, decide_eq_false fun z => h (hf _ _ z)]
section
variable {K : PySem.W.Frag} {mg : Str → Option Value} {X : Cx}
theorem eq_core {M : Addr → Prop} {p : List Addr} {H : Hp} {d e : D} {v w : V} {b : Bool} {R : Prop} (hv : TV K mg M p H d v) (hw : TV K mg M p H e w) (h : dEqB d e = some b)
    (h1 : scal v w = true → decide (v = w) = b → R) (h2 : Dp K H v d.py → Dp K H w e.py → SeqAt.shaped d.py = true → SeqAt.shaped e.py = true → PyData.eqv d.py e.py = b → R) : R := by
  have gen : (if SeqAt.shaped d.py = true ∧ SeqAt.shaped e.py = true then some (PyData.eqv d.py e.py) else none) = some b → R := fun h => by
    split at h
    · rename_i z
      exact h2 (hv.dp (shaped_lay z.1)) (hw.dp (shaped_lay z.2)) z.1 z.2 (Option.some.inj h)
    · cases h
  cases d <;> cases e <;> first
    | exact gen h
    | (cases hv; cases hw; refine h1 rfl ?_; have h' := Option.some.inj h; subst h'; first | rfl | exact decV V.int (fun _ _ => V.int.inj) _ _ | exact decV V.str (fun _ _ => V.str.inj) _ _ | exact decV V.bl (fun _ _ => V.bl.inj) _ _ | (apply decide_eq_false; intro z; cases z) | simp)
def rEqA (K : PySem.W.Frag) : R2 := fun x y H Q => rEq x y H Q ∨ rEqD K x y H Q
def rNeA (K : PySem.W.Frag) : R2 := fun x y H Q => rNe x y H Q ∨ rNeD K x y H Q
theorem op_eqA (hu : X.A.units + 64 < cLine) : OpR X (compareOp .Eq) (rEqA X.K) := OpR.or op_eq (op_eqD hu)
theorem op_neA (hu : X.A.units + 64 < cLine) : OpR X (compareOp .NotEq) (rNeA X.K) := OpR.or op_ne (op_neD hu)
theorem ok_eq : Op2Ok .f K mg (rEqA K) dEq := by
  intro M p H S d e v w x Q R hd tv tw hg h
  unfold dEq at hg
  cases z : dEqB d e with
  | none => rw [z] at hg; cases hg
  | some b =>
    rw [z] at hg; cases hg
    have q := h.bl R hd
    refine eq_core tv tw z (fun hs e1 => .inl ⟨hs, ?_⟩) fun d1 d2 s1 s2 e1 => .inr ⟨_, _, d1, d2, s1, s2, ?_⟩
    · rw [e1]; exact q
    · rw [e1]; exact q
theorem ok_ne : Op2Ok .f K mg (rNeA K) dNe := by
  intro M p H S d e v w x Q R hd tv tw hg h
  unfold dNe at hg
  cases z : dEqB d e with
  | none => rw [z] at hg; cases hg
  | some b =>
    rw [z] at hg; cases hg
    have q := h.bl R hd
    refine eq_core tv tw z (fun hs e1 => .inl ⟨hs, ?_⟩) fun d1 d2 s1 s2 e1 => .inr ⟨_, _, d1, d2, s1, s2, ?_⟩
    · rw [e1]; exact q
    · rw [e1]; exact q
end

/-! ### ints -/
def dI2 (C : Int → Int → Bool) (g : Int → Int → D) : D → D → Option D
  | .int i, .int j => if C i j then some (g i j) else none
  | _, _ => none
section
variable {K : PySem.W.Frag} {mg : Str → Option Value}
theorem ok_I2 {C : Int → Int → Prop} {Cb : Int → Int → Bool} {gv : Int → Int → V} {g : Int → Int → D} (hC : ∀ i j, Cb i j = true → C i j) (hg : ∀ i j, (g i j).sc = some (gv i j)) : Op2Ok .f K mg (rI C gv) (dI2 Cb g) := by
  intro M p H S d e v w x Q R hd tv tw hx h
  cases d <;> first
    | (cases hx; done)
    | (cases e <;> first
      | (cases hx; done)
      | (cases tv; cases tw
         simp only [dI2] at hx
         split at hx
         · rename_i z
           cases hx
           exact ⟨_, _, rfl, rfl, hC _ _ z, h.sc R hd (hg _ _)⟩
         · cases hx))
theorem ok_I0 {gv : Int → Int → V} {g : Int → Int → D} (hg : ∀ i j, (g i j).sc = some (gv i j)) : Op2Ok .f K mg (rI0 gv) (dI2 (fun _ _ => true) g) := by
  intro M p H S d e v w x Q R hd tv tw hx h
  cases d <;> first
    | (cases hx; done)
    | (cases e <;> first
      | (cases hx; done)
      | (cases tv; cases tw
         cases hx
         exact ⟨_, _, rfl, rfl, h.sc R hd (hg _ _)⟩))
theorem Op2Ok.or {k : Kd} {r r' : R2} {g g' : D → D → Option D} (h : Op2Ok k K mg r g) (h' : Op2Ok k K mg r' g') : Op2Ok k K mg (fun x y H Q => r x y H Q ∨ r' x y H Q) (fun d e => (g d e).or (g' d e)) := by
  intro M p H S d e v w x Q R hd tv tw hx a
  replace hx : (g d e).or (g' d e) = some x := hx
  cases z : g d e with
  | some y =>
    rw [z] at hx; cases hx
    exact .inl (h M p H S d e v w _ Q R hd tv tw z a)
  | none =>
    rw [z] at hx
    exact .inr (h' M p H S d e v w x Q R hd tv tw hx a)
end
def inW (i : Int) : Bool := decide (-(2 ^ 64) < i ∧ i < 2 ^ 64)
def dSub := dI2 (fun _ _ => true) fun i j => .int (i - j)
def dAddI := dI2 (fun _ _ => true) fun i j => .int (i + j)
def dMulI := dI2 (fun i j => inW i || inW j) fun i j => .int (i * j)
def dMod := dI2 (fun i j => j != 0) fun i j => .int (i.fmod j)
def dDiv := dI2 (fun i j => decide (j ≠ 0 ∧ j.natAbs < 1073741824)) fun i j => .int (i.fdiv j)
def dPow := dI2 (fun i j => decide (0 ≤ j ∧ j ≤ 1000000 ∧ i.natAbs < 2 ^ 64)) fun i j => .int (i ^ j.toNat)
def dShl := dI2 (fun i j => decide (0 ≤ j ∧ j ≤ 1000000 ∧ i.natAbs < 2 ^ 64)) fun i j => .int (i * 2 ^ j.toNat)
def dLtI := dI2 (fun _ _ => true) fun i j => .bl (decide (i < j))
def dLeI := dI2 (fun _ _ => true) fun i j => .bl (decide (i ≤ j))
def dGtI := dI2 (fun _ _ => true) fun i j => .bl (decide (j < i))
def dGeI := dI2 (fun _ _ => true) fun i j => .bl (decide (j ≤ i))
section
variable {K : PySem.W.Frag} {mg : Str → Option Value}
theorem ok_sub : Op2Ok .f K mg (rI0 fun i j => .int (i - j)) dSub := ok_I0 fun _ _ => rfl
theorem ok_addI : Op2Ok .f K mg (rI0 fun i j => .int (i + j)) dAddI := ok_I0 fun _ _ => rfl
theorem ok_mulI : Op2Ok .f K mg (rI CMul fun i j => .int (i * j)) dMulI := ok_I2 (fun i j h => by
  rw [Bool.or_eq_true] at h
  exact h.elim (fun h => .inl (of_decide_eq_true h)) fun h => .inr (of_decide_eq_true h)) fun _ _ => rfl
theorem ok_mod : Op2Ok .f K mg (rI (fun i j => j ≠ 0) fun i j => .int (i.fmod j)) dMod := ok_I2 (fun i j h => by simpa using h) fun _ _ => rfl
theorem ok_div : Op2Ok .f K mg (rI CDivN fun i j => .int (i.fdiv j)) dDiv := ok_I2 (fun i j h => by simpa [CDivN, CPow] using h) fun _ _ => rfl
theorem ok_pow : Op2Ok .f K mg (rI CPow fun i j => .int (i ^ j.toNat)) dPow := ok_I2 (fun i j h => by simpa [CDivN, CPow] using h) fun _ _ => rfl
theorem ok_shl : Op2Ok .f K mg (rI CPow fun i j => .int (i * 2 ^ j.toNat)) dShl := ok_I2 (fun i j h => by simpa [CDivN, CPow] using h) fun _ _ => rfl
theorem ok_lt : Op2Ok .f K mg (rI0 fun i j => .bl (decide (i < j))) dLtI := ok_I0 fun _ _ => rfl
theorem ok_le : Op2Ok .f K mg (rI0 fun i j => .bl (decide (i ≤ j))) dLeI := ok_I0 fun _ _ => rfl
theorem ok_gt : Op2Ok .f K mg (rI0 fun i j => .bl (decide (j < i))) dGtI := ok_I0 fun _ _ => rfl
theorem ok_ge : Op2Ok .f K mg (rI0 fun i j => .bl (decide (j ≤ i))) dGeI := ok_I0 fun _ _ => rfl
def dNeg : D → Option D
  | .int i => some (.int (-i))
  | _ => none
theorem ok_neg : Op1Ok .f K mg (rU fun i => .int (-i)) dNeg := by
  intro M p H S d v x Q R hd tv hx h
  cases d <;> first | (cases hx; done) | (cases tv; cases hx; exact ⟨_, rfl, h.int R hd⟩)
/-! ### + and * of texts, tuples, lists -/
def dAddS : D → D → Option D
  | .str i, .str j => if i.length + j.length ≤ sizeLine then some (.str (i ++ j)) else none
  | _, _ => none
theorem ok_addS : Op2Ok .f K mg (fun x y H Q => ∃ i j, x = .str i ∧ y = .str j ∧ i.length + j.length ≤ sizeLine ∧ Q (.str (i ++ j)) H) dAddS := by
  intro M p H S d e v w x Q R hd tv tw hx h
  cases d <;> first
    | (cases hx; done)
    | (cases e <;> first
      | (cases hx; done)
      | (cases tv; cases tw
         simp only [dAddS] at hx
         split at hx
         · cases hx
           exact ⟨_, _, rfl, rfl, by assumption, h.str R hd⟩
         · cases hx))
def dAddT : D → D → Option D
  | .tup z xs, .tup y ys => if xs.length + ys.length ≤ 1000000 then some (.tup (z && y) (xs ++ ys)) else none
  | _, _ => none
theorem mill {n : Nat} (h : n ≤ 1000000) : n ≤ sizeLine := by rw [sizeLine_eq]; omega
theorem millT {n : Nat} (h : n ≤ 1000000) : n < sizeLine := by rw [sizeLine_eq]; omega
theorem ok_addT : Op2Ok .f K mg (rCatZ K) dAddT := by
  intro M p H S d e v w x Q R hd tv tw hx h
  cases d <;> first
    | (cases hx; done)
    | (cases e <;> first
      | (cases hx; done)
      | (obtain ⟨a, vs, rfl, h2, h3⟩ := tv
         obtain ⟨b, ws, rfl, g2, g3⟩ := tw
         simp only [dAddT] at hx
         split at hx
         · rename_i z
           cases hx
           have l1 := h3.length
           have l2 := g3.length
           refine ⟨a, b, vs, ws, rfl, rfl, h2.sq, g2.sq, mill (by omega), fun e => ?_, fun _ e => ?_, fun _ _ => h.tup R hd (RDs.append h3 g3)⟩
           · subst e
             have q := RDs.append h3 g3
             exact h.tupOf R hd (by rw [Bool.and_comm]; exact g2.weak) (by simpa using q)
           · subst e
             have q := RDs.append h3 g3
             exact h.tupOf R hd h2.weak (by simpa using q)
         · cases hx))
def dAddL : D → D → Option D
  | .lst xs, .lst ys => if xs.length + ys.length ≤ 1000000 then some (.lst (xs ++ ys)) else none
  | _, _ => none
theorem ok_addL : Op2Ok .f K mg rCat dAddL := by
  intro M p H S d e v w x Q R hd tv tw hx h
  cases d <;> first
    | (cases hx; done)
    | (cases e <;> first
      | (cases hx; done)
      | (obtain ⟨a, vs, rfl, h2, _, h3⟩ := tv
         obtain ⟨b, ws, rfl, g2, _, g3⟩ := tw
         simp only [dAddL] at hx
         split at hx
         · rename_i z
           cases hx
           have l1 := h3.length
           have l2 := g3.length
           exact ⟨a, b, vs, ws, rfl, rfl, h2, g2, mill (by omega), fun q hq => h.lst R hd (RDs.append h3 g3) hq⟩
         · cases hx))
/-- + of all kinds -/
def dAdd (d e : D) : Option D := (dAddI d e).or ((dAddT d e).or ((dAddL d e).or (dAddS d e)))
def rAddA (K : PySem.W.Frag) : R2 := fun x y H Q => (rI0 fun i j => .int (i + j)) x y H Q ∨ (rCatZ K x y H Q ∨ (rCat x y H Q ∨ ∃ i j, x = .str i ∧ y = .str j ∧ i.length + j.length ≤ sizeLine ∧ Q (.str (i ++ j)) H))
theorem ok_add : Op2Ok .f K mg (rAddA K) dAdd := Op2Ok.or ok_addI (Op2Ok.or ok_addT (Op2Ok.or ok_addL ok_addS))
theorem op_addA {X : Cx} : OpR X (binaryOp .Add) (rAddA X.K) := OpR.or op_add (OpR.or op_catZ (OpR.or op_cat op_add_str))
def dRepL : D → D → Option D
  | .lst xs, .int k => if -(2 ^ 63) ≤ k ∧ k < 2 ^ 63 ∧ xs.length * k.toNat ≤ 1000000 then some (.lst (List.replicate k.toNat xs).flatten) else none
  | _, _ => none
theorem ok_repL : Op2Ok .f K mg rRep dRepL := by
  intro M p H S d e v w x Q R hd tv tw hx h
  cases d <;> first
    | (cases hx; done)
    | (cases e <;> first
      | (cases hx; done)
      | (obtain ⟨a, vs, rfl, h2, _, h3⟩ := tv
         cases tw
         simp only [dRepL] at hx
         split at hx
         · rename_i z
           cases hx
           have l1 := h3.length
           exact ⟨a, _, vs, rfl, rfl, h2, z.1, z.2.1, mill (by rw [l1]; exact z.2.2), fun q hq => h.lst R hd (RDs.flat h3) hq⟩
         · cases hx))
def dRepT : D → D → Option D
  | .tup _ xs, .int k => if xs ≠ [] ∧ 2 ≤ k ∧ k ≤ 1000 ∧ xs.length ≤ 1000 then some (.tup false (List.replicate k.toNat xs).flatten) else none
  | _, _ => none
theorem ok_repT : Op2Ok .f K mg (rRepT K) dRepT := by
  intro M p H S d e v w x Q R hd tv tw hx h
  cases d <;> first
    | (cases hx; done)
    | (cases e <;> first
      | (cases hx; done)
      | (obtain ⟨a, vs, rfl, h2, h3⟩ := tv
         cases tw
         simp only [dRepT] at hx
         split at hx
         · rename_i z
           cases hx
           have l1 := h3.length
           refine ⟨a, _, vs, rfl, rfl, h2.sq, fun e => z.1 ?_, z.2.1, z.2.2.1, by rw [l1]; exact z.2.2.2, fun q hq => h.tupW R hd (RDs.flat h3) hq⟩
           subst e
           exact List.length_eq_zero_iff.mp l1.symm
         · cases hx))
end
end QL

set_option Elab.async false
set_option linter.all false
set_option maxRecDepth 100000
/-! QD: arguments, displays, calls by value, subscripts, tests -/
namespace QL
open PySem PySem.Spec PyProof.Rows L2

/-! ### a new list, kept -/
section
variable {K : PySem.W.Frag} {mg : Str → Option Value} {M M2 : Addr → Prop} {p : List Addr} {H : Hp}
mutual
theorem RD.anti (m : ∀ a, M2 a → M a) : ∀ (d : D) (v : V), RD K mg M p H d v → RD K mg M2 p H d v
  | .non, _, h => by unfold RD at h ⊢; exact h
  | .bl _, _, h => by unfold RD at h ⊢; exact h
  | .int _, _, h => by unfold RD at h ⊢; exact h
  | .str _, _, h => by unfold RD at h ⊢; exact h
  | .glo _, _, h => by unfold RD at h ⊢; exact h
  | .adr _, _, h => by unfold RD at h ⊢; exact h
  | .ref n, _, h => by unfold RD at h ⊢; exact h
  | .tup z ds, v, h => by
    unfold RD at h ⊢
    obtain ⟨a, vs, h1, h2, h3⟩ := h
    exact ⟨a, vs, h1, h2, RDs.anti m ds vs h3⟩
  | .lst ds, v, h => by
    unfold RD at h ⊢
    obtain ⟨a, vs, h1, h2, h3, h4⟩ := h
    exact ⟨a, vs, h1, h2, fun z => h3 (m a z), RDs.anti m ds vs h4⟩
  | .frz ds, v, h => by
    unfold RD at h ⊢
    obtain ⟨a, vs, h1, h2, h3⟩ := h
    exact ⟨a, vs, h1, h2, RDs.anti m ds vs h3⟩
theorem RDs.anti (m : ∀ a, M2 a → M a) : ∀ (ds : List D) (vs : List V), RDs K mg M p H ds vs → RDs K mg M2 p H ds vs
  | [], _, h => by unfold RDs at h ⊢; exact h
  | d :: ds, _, h => by
    unfold RDs at h ⊢
    obtain ⟨v, r, h1, h2, h3⟩ := h
    exact ⟨v, r, h1, RD.anti m d v h2, RDs.anti m ds r h3⟩
end
theorem RKs.anti {κ : Type} (m : ∀ a, M2 a → M a) : ∀ (ds : List (κ × D)) (vs : List (κ × V)), RKs K mg M p H ds vs → RKs K mg M2 p H ds vs
  | [], _, h => by unfold RKs at h ⊢; exact h
  | d :: ds, _, h => by
    unfold RKs at h ⊢
    obtain ⟨v, r, h1, h2, h3⟩ := h
    exact ⟨v, r, h1, RD.anti m _ v h2, RKs.anti m ds r h3⟩
theorem TV.anti (m : ∀ a, M2 a → M a) {d : D} {v : V} (h : TV K mg M p H d v) : TV K mg M2 p H d v := by
  cases d with
  | lst ds =>
    obtain ⟨a, vs, h1, h2, h3, h4⟩ := h
    exact ⟨a, vs, h1, h2, h3, RDs.anti m ds vs h4⟩
  | tup z ds =>
    obtain ⟨a, vs, h1, h2, h3⟩ := h
    exact ⟨a, vs, h1, h2, RDs.anti m ds vs h3⟩
  | frz ds =>
    obtain ⟨a, vs, h1, h2, h3⟩ := h
    exact ⟨a, vs, h1, h2, RDs.anti m ds vs h3⟩
  | _ => exact h
theorem SR.anti {S : Sto} (R : SR K mg M p H S) (m : ∀ a, M2 a → M a) (i : ∀ a ∈ p, M2 a) : SR K mg M2 p H S := by
  refine ⟨R.len, R.nd, i, fun n o h => ?_⟩
  obtain ⟨a, ha, q⟩ := R.at_ n o h
  refine ⟨a, ha, ?_⟩
  cases o with
  | lst ds => obtain ⟨vs, h1, h2⟩ := q; exact ⟨vs, h1, RDs.anti m ds vs h2⟩
  | dct ds => obtain ⟨vs, h1, h2⟩ := q; exact ⟨vs, h1, RKs.anti m ds vs h2⟩
  | dctT ds => obtain ⟨vs, h1, h2⟩ := q; exact ⟨vs, h1, RKs.anti m ds vs h2⟩
  | ins c fs => obtain ⟨vs, h1, h2⟩ := q; exact ⟨vs, h1, RKs.anti m fs vs h2⟩
  | fdK fs => obtain ⟨vs, h1, h2⟩ := q; exact ⟨vs, h1, RKs.anti m fs vs h2⟩
  | fdT fs => obtain ⟨vs, h1, h2⟩ := q; exact ⟨vs, h1, RKs.anti m fs vs h2⟩
  | fl ds => obtain ⟨vs, h1, h2⟩ := q; exact ⟨vs, h1, RDs.anti m ds vs h2⟩
  | tab _ => exact q
end
/-- fewer things may be changed -/
theorem FR.anti {c : Fc} {M M2 : Addr → Prop} {p : List Addr} {H : Hp} {S : Sto} {ow : Nat → Option Addr} {σ : L2.St} {ρ : Rho} (R : FR c M p H ow σ ρ S) (m : ∀ a, M2 a → M a) (m0 : ∀ a, c.M0 a → M2 a) (mp : ∀ a ∈ p, M2 a) (mo : ∀ i a, ow i = some a → M2 a) : FR c M2 p H ow σ ρ S where
  ext := ⟨R.ext.keep, R.ext.dom, R.ext.phi, fun a h => R.ext.mm a (m a h), R.ext.fz⟩
  M0 := m0
  sto := R.sto.anti m mp
  dom := fun a h => R.dom a (m a h)
  own := fun i a h => ⟨mo i a h, (R.own i a h).2⟩
  inj := R.inj
  slots := fun i s h => by
    have q := R.slots i s h
    cases s with
    | emp => exact q
    | val d => obtain ⟨h0, v, h1, h2⟩ := q; exact ⟨h0, v, h1, RD.anti m d v h2⟩
    | own ds => obtain ⟨a, vs, h1, h2, h3, h4⟩ := q; exact ⟨a, vs, h1, h2, h3, RDs.anti m ds vs h4⟩
    | bor ds => obtain ⟨h0, v, h1, h2⟩ := q; exact ⟨h0, v, h1, TV.anti m h2⟩
  len := R.len
  pin := R.pin
  pinM := fun a h z => R.pinM a h (m a z)
  pinO := R.pinO
  pinP := R.pinP
  pinp := R.pinp
  m0d := R.m0d
  oln := R.oln
  bor := R.bor
theorem fToR {X : Cx} {c : Fc} {e : Expr} {f : Fx} (h : PE X e (TX .f c f)) : PE X e (TX .r c f) := peW h fun σ H Q ⟨M, p, ow, ρ, S, R, h⟩ => ⟨M, p, ow, ρ, S, R, by
  cases z : f ρ S with
  | stuck => rw [z] at h; exact h
  | err n fs S' => rw [z] at h; exact h
  | ok d S' =>
    rw [z] at h
    intro v M' p' H' e m R' t
    cases d with
    | lst ds =>
      obtain ⟨a, vs, h1, h2, h3, h4, h5, h6⟩ := t
      have na : ∀ b, M b → b ≠ a := fun b m z => R.dom b m (by rw [z]; exact h4)
      have m2 : ∀ b, (M' b ∧ b ≠ a) → M' b := fun b z => z.1
      have mp : ∀ b ∈ p', M' b ∧ b ≠ a := fun b hb => ⟨R'.sto.inM b hb, fun z => h3 (by rw [← z]; exact hb)⟩
      have m0 : ∀ b, c.M0 b → M' b ∧ b ≠ a := fun b hb => ⟨R'.M0 b hb, na b (R.M0 b hb)⟩
      have mo : ∀ i b, ow i = some b → M' b ∧ b ≠ a := fun i b hb => ⟨(R'.own i b hb).1, na b (R.own i b hb).1⟩
      refine h v (fun b => M' b ∧ b ≠ a) p' H' ⟨e.keep, e.dom, e.phi, fun b z => e.mm b z.1, e.fz⟩ (fun b hb => ⟨m b hb, na b hb⟩) (R'.anti m2 m0 mp mo) ?_
      subst h1
      unfold Came RD
      exact ⟨a, vs, rfl, h5, fun z => z.2 rfl, RDs.anti m2 ds vs h6⟩
    | _ => exact h v M' p' H' e m R' t⟩

/-! ### arguments -/
inductive ARes where
  | ok (ds : List D) (S : Sto)
  | err (c : Str) (fs : List (Str × D)) (S : Sto)
  | stuck
abbrev Ax := Rho → Sto → ARes
def ARes.bind (r : ARes) (k : List D → Sto → Res) : Res := match r with
  | .ok d S => k d S
  | .err n fs S => .err n fs S
  | .stuck => .stuck
def fNil : Ax := fun _ S => .ok [] S
def fCons (f : Fx) (r : Ax) : Ax := fun ρ S => match f ρ S with
  | .ok d S => (match r ρ S with
    | .ok ds S => .ok (d :: ds) S
    | .err n fs S => .err n fs S
    | .stuck => .stuck)
  | .err n fs S => .err n fs S
  | .stuck => .stuck
/-- to be kept (true), or read here (false) -/
def Hold (b : Bool) (K : PySem.W.Frag) (mg : Str → Option Value) (M : Addr → Prop) (p : List Addr) (H : Hp) (d : D) (v : V) : Prop := match b with
  | true => RD K mg M p H d v
  | false => TV K mg M p H d v
def Holds (b : Bool) (K : PySem.W.Frag) (mg : Str → Option Value) (M : Addr → Prop) (p : List Addr) (H : Hp) : List D → List V → Prop
  | [], vs => vs = []
  | d :: ds, vs => ∃ v r, vs = v :: r ∧ Hold b K mg M p H d v ∧ Holds b K mg M p H ds r
def kdOf : Bool → Kd
  | true => .r
  | false => .t
def RA (b : Bool) (c : Fc) (M : Addr → Prop) (p : List Addr) (H : Hp) (ow : Nat → Option Addr) (σ : L2.St) (ρ : Rho) (r : ARes) (Q : List V → Hp → Prop) : Prop :=
  match r with
  | .ok ds S' => ∀ vs M' p' H', Ext M p H M' p' H' → (∀ a, M a → M' a) → FR c M' p' H' ow σ ρ S' → Holds b c.K c.mg M' p' H' ds vs → Q vs H'
  | .err n fs S' => ∀ C d M' p' H', c.mg n = some (.ref C) → Ext M p H M' p' H' → (∀ a, M a → M' a) → FR c M' p' H' ow σ ρ S' → ErrAt c.K c.mg M' p' H' d fs → c.W (.ref C) d σ H'
  | .stuck => False
def TAx (b : Bool) (c : Fc) (f : Ax) : TA := fun σ H Q => ∃ M p ow ρ S, FR c M p H ow σ ρ S ∧ RA b c M p H ow σ ρ (f ρ S) Q
section
variable {b : Bool} {K : PySem.W.Frag} {mg : Str → Option Value} {M M' : Addr → Prop} {p p' : List Addr} {H H' : Hp}
theorem Hold.ext (e : Ext M p H M' p' H') (hm : Muts p H) (hM : ∀ a ∈ p, M a) {d : D} {v : V} (h : Hold b K mg M p H d v) : Hold b K mg M' p' H' d v := by
  cases b with
  | true => exact RD.ext e hm hM d v h
  | false => exact TV.ext e hm hM d v h
theorem Holds.rds : ∀ {ds : List D} {vs : List V}, Holds true K mg M p H ds vs → RDs K mg M p H ds vs
  | [], _, h => by unfold Holds at h; subst h; exact RDs.nil
  | d :: ds, _, h => by
    unfold Holds at h
    obtain ⟨v, r, rfl, h2, h3⟩ := h
    exact RDs.cons h2 (Holds.rds h3)
end
theorem came_hold {b : Bool} {K : PySem.W.Frag} {mg : Str → Option Value} {M' : Addr → Prop} {p' : List Addr} {H H' : Hp} {d : D} {v : V} (h : Came (kdOf b) K mg H M' p' H' d v) : Hold b K mg M' p' H' d v := by
  cases b <;> exact h
section
variable {X : Cx} {c : Fc} {b : Bool} {e : Expr} {es : List Expr} {fa : Fx} {fr : Ax}
theorem qNil : PA X [] (TAx b c fNil) := paW pa_nil fun σ H Q ⟨M, p, ow, ρ, S, R, h⟩ => h [] M p H .refl (fun _ m => m) R (by unfold Holds; rfl)
theorem qCons (ha : PE X e (TX (kdOf b) c fa)) (hr : PA X es (TAx b c fr)) (hs : starEach (e :: es) X.env = (false, eval e X.env) :: starEach es X.env := by rfl) : PA X (e :: es) (TAx b c (fCons fa fr)) :=
  paW (pa_cons ha hr hs) fun σ H Q ⟨M, p, ow, ρ, S, R, h⟩ => by
    refine ⟨M, p, ow, ρ, S, R, ?_⟩
    unfold fCons at h
    cases z : fa ρ S with
    | stuck => rw [z] at h; exact h
    | err n fs S' => rw [z] at h; exact h
    | ok d S1 =>
      rw [z] at h
      intro v M1 p1 H1 e1 m1 R1 t1
      refine ⟨M1, p1, ow, ρ, S1, R1, ?_⟩
      cases z2 : fr ρ S1 with
      | stuck => simp only [z2] at h; exact h
      | err n fs S' => simp only [z2] at h; exact fun C d M' p' H' hc e m R' t => h C d M' p' H' hc (e1.trans e) (fun a q => m a (m1 a q)) R' t
      | ok ds S2 =>
        simp only [z2] at h
        intro vs M2 p2 H2 e2 m2 R2 t2
        refine h (v :: vs) M2 p2 H2 (e1.trans e2) (fun a q => m2 a (m1 a q)) R2 ?_
        unfold Holds
        exact ⟨v, vs, rfl, (came_hold t1).ext e2 R1.sto.muts R1.sto.inM, t2⟩
theorem RA.bind {M : Addr → Prop} {p : List Addr} {H : Hp} {ow : Nat → Option Addr} {σ : L2.St} {ρ : Rho} {k : Kd} {Q : VK} {r : ARes} {f : List D → Sto → Res} (h : RX k c M p H ow σ ρ (r.bind f) Q) :
    RA b c M p H ow σ ρ r fun vs H1 => ∃ ds S1 M1 p1, Ext M p H M1 p1 H1 ∧ FR c M1 p1 H1 ow σ ρ S1 ∧ Holds b c.K c.mg M1 p1 H1 ds vs ∧ RX k c M1 p1 H1 ow σ ρ (f ds S1) Q := by
  cases r with
  | ok d S => exact fun v M1 p1 H1 e m R t => ⟨d, S, M1, p1, e, R, t, RX.later h e m⟩
  | err n fs S => exact h
  | stuck => exact h
theorem RA.mono {M : Addr → Prop} {p : List Addr} {H : Hp} {ow : Nat → Option Addr} {σ : L2.St} {ρ : Rho} {Q Q' : List V → Hp → Prop} {r : ARes} (h : RA b c M p H ow σ ρ r Q) (w : ∀ v H, Q v H → Q' v H) : RA b c M p H ow σ ρ r Q' := by
  cases r with
  | ok d S => exact fun v M' p' H' e m R t => w _ _ (h v M' p' H' e m R t)
  | err n fs S => exact h
  | stuck => exact h
/-! ### displays -/
def fTup (z : Bool) (f : Ax) : Fx := fun ρ S => (f ρ S).bind fun ds S => if ds.length ≤ 1000000 then .ok (.tup z ds) S else .stuck
def fLst (f : Ax) : Fx := fun ρ S => (f ρ S).bind fun ds S => if ds.length ≤ 1000000 then .ok (.lst ds) S else .stuck
theorem qTup {x1} {pos : Pos} (h : PA X es (TAx true c fr)) : PE X (.Tuple es x1 pos) (TX .f c (fTup true fr)) := peW (pe_tupZ h) fun σ H Q ⟨M, p, ow, ρ, S, R, h⟩ => by
  refine ⟨M, p, ow, ρ, S, R, (RA.bind (b := true) h).mono fun vs H1 ⟨ds, S1, M1, p1, e1, R1, t1, h1⟩ => ?_⟩
  have r := t1.rds
  split at h1
  · rename_i z
    exact ⟨mill (by rw [r.length]; exact z), (Ans.of R1 h1).tup R1.sto R1.dom r⟩
  · exact h1.elim
/-- as a dict's key -/
theorem qTupW {x1} {pos : Pos} (h : PA X es (TAx true c fr)) : PE X (.Tuple es x1 pos) (TX .f c (fTup false fr)) := peW (pe_tup h) fun σ H Q ⟨M, p, ow, ρ, S, R, h⟩ => by
  refine ⟨M, p, ow, ρ, S, R, (RA.bind (b := true) h).mono fun vs H1 ⟨ds, S1, M1, p1, e1, R1, t1, h1⟩ => ?_⟩
  have r := t1.rds
  split at h1
  · rename_i z
    exact ⟨mill (by rw [r.length]; exact z), fun a ha => (Ans.of R1 h1).tupW R1.sto R1.dom r ha⟩
  · exact h1.elim
theorem qLst {pos : Pos} (h : PA X es (TAx true c fr)) : PE X (.List es pos) (TX .f c (fLst fr)) := peW (pe_lst h) fun σ H Q ⟨M, p, ow, ρ, S, R, h⟩ => by
  refine ⟨M, p, ow, ρ, S, R, (RA.bind (b := true) h).mono fun vs H1 ⟨ds, S1, M1, p1, e1, R1, t1, h1⟩ => ?_⟩
  have r := t1.rds
  split at h1
  · rename_i z
    exact ⟨mill (by rw [r.length]; exact z), fun a ha => (Ans.of R1 h1).lst R1.sto R1.dom r ha⟩
  · exact h1.elim
end

/-! ### calls by value -/
def CallOk (k : Kd) (K : PySem.W.Frag) (mg : Str → Option Value) (r : List V → Hp → VK → Prop) (g : Sto → List D → Option D) : Prop :=
  ∀ M p H S ds vs x Q, SR K mg M p H S → (∀ a, M a → H a ≠ none) → Holds false K mg M p H ds vs → g S ds = some x → Ans k K mg M p H S x Q → r vs H Q
def fCall (g : Sto → List D → Option D) (f : Ax) : Fx := fun ρ S => (f ρ S).bind fun ds S => lift (g S ds) S
section
variable {X : Cx} {c : Fc} {e : Expr} {es : List Expr} {fr : Ax} {x : Str} {id T : String} {p pos : Pos} {k : Kd} {r : List V → Hp → VK → Prop} {g : Sto → List D → Option D}
theorem callA (hr : CallOk k c.K c.mg r g) (σ : L2.St) (H : Hp) (Q : VK) (h : TX k c (fCall g fr) σ H Q) : TAx false c fr σ H fun vs H1 => r vs H1 Q := by
  obtain ⟨M, p, ow, ρ, S, R, h⟩ := h
  refine ⟨M, p, ow, ρ, S, R, (RA.bind (b := false) h).mono fun vs H1 ⟨ds, S1, M1, p1, e1, R1, t1, h1⟩ => ?_⟩
  cases z : g S1 ds with
  | none => rw [z] at h1; exact h1.elim
  | some x => rw [z] at h1; exact hr M1 p1 H1 S1 ds vs x Q R1.sto R1.dom t1 z (Ans.of R1 h1)
theorem qCallB (hc : CallR X (.builtin id) r) (hr : CallOk k c.K c.mg r g) (hg : Gl X x) (hm : X.mg x = none) (hv : bootBuiltins x = some (.builtin id)) (ha : PA X (e :: es) (TAx false c fr)) (hn : x ≠ "__name__" := by decide) (hdb : (x == ("__debug__" : Str)) = false := by decide)
    (he : starEach (e :: es) X.env = (false, eval e X.env) :: starEach es X.env := by rfl) (hpl : (backTo pos (starEach es X.env)).any (·.1) = false := by rfl) : PE X (.Call (.Name x p) (e :: es) [] pos) (TX k c (fCall g fr)) :=
  peW (pe_callB hc hg hm hv ha hn hdb he hpl) (callA hr)
theorem qCallTy (hc : CallR X (.type T) r) (hr : CallOk k c.K c.mg r g) (hg : Gl X x) (hm : X.mg x = none) (hv : bootBuiltins x = some (.type T)) (ha : PA X (e :: es) (TAx false c fr)) (hn : x ≠ "__name__" := by decide) (hdb : (x == ("__debug__" : Str)) = false := by decide)
    (he : starEach (e :: es) X.env = (false, eval e X.env) :: starEach es X.env := by rfl) (hpl : (backTo pos (starEach es X.env)).any (·.1) = false := by rfl) : PE X (.Call (.Name x p) (e :: es) [] pos) (TX k c (fCall g fr)) :=
  peW (pe_callTy hc hg hm hv ha hn hdb he hpl) (callA hr)
end
end QL

set_option Elab.async false
set_option linter.all false
set_option maxRecDepth 100000
/-! QE: defs: what a def of the text promises, called while no text is being made of a thing (so repr may be asked) -/
namespace QL
open PySem PySem.Spec L2
open PyProof.Rows hiding St

/-- as the layer's FnOk, where no repr is under way -/
structure FnG (P : Program) (w : World) (K : PySem.W.Frag) (mg : Str → Option Value) (base : Heap) (CX : CXT) (k : Nat) (f : Addr) (fd : FuncData) (ps : List Str) (sp : Sp) : Prop where
  len : ∀ vs H Q E, sp vs H Q E → vs.length = ps.length
  run : ∀ (A : Around) (outer : List Env) (s : Shared) (H : Hp) (args : Args) (us : List Value) (vs : List V) (Q : VK) (E : XK), Room k A → A.guards = some [] → Env0 P w K mg base A outer s H → BindsTo s fd args (ps.zip us) → Vals vs us → sp vs H Q E →
    codeAny (model P w) A (.call (.ref f) args) (CR CX outer P w H s Q E) s
section
variable {P : Program} {w : World} {K : PySem.W.Frag} {mg : Str → Option Value} {base : Heap} {CX : CXT}
theorem FnG.up {j k : Nat} {f : Addr} {fd : FuncData} {ps : List Str} {sp : Sp} (F : FnG P w K mg base CX j f fd ps sp) (h : j ≤ k) : FnG P w K mg base CX k f fd ps sp :=
  ⟨F.len, fun A outer s H args us vs Q E hr => F.run A outer s H args us vs Q E (hr.mono h)⟩
theorem fnG_of {x qual : Str} {st : Stmt} {f : Addr} {fd : FuncData} {N ps : List Str} {k : Nat} {sp : Sp} (F : Fun K x qual st f fd) (S : FnScope N ps (defScope st)) (len : ∀ vs H Q E, sp vs H Q E → vs.length = ps.length)
    (body : ∀ (cdv : Value) (A : Around) (outer : List Env) (s : Shared) (H : Hp) (vs : List V) (Q : VK) (E : XK), Room k (A.deeper (envOfC qual (defScope st) s.heap.objs.size f cdv)) → A.guards = some [] → sp vs H Q E →
      ∃ t, PSs (cxOf CX P w K mg base N qual (defScope st) f cdv A outer s H E) (defBody st) t ∧ t { nx := fun _ H' => Q .non H', rt := Q } (L2.start N vs) H) : FnG P w K mg base CX (k + 1) f fd ps sp where
  len := len
  run A outer s H args us vs Q E hr gd e0 hb rv hsp := by
    obtain ⟨oc, od, kV, doc, pm, an, cdv, ct, osl, rfl, lk, hcd⟩ := F.ex
    have stays : ∀ b o, base.get? b = some o → s.heap.get? b = some o := fun b o e => (e0.bs b o e).1
    have KX := e0.mod.kin.keeps stays
    have kinds : ∀ y ∈ ps.zip us, (defScope st).names.lookup y.1 = some .local ∨ ((defScope st).names.lookup y.1 = some .cell ∧ ((cellsFrom (s.heap.objs.size + 1) (defScope st).names []).lookup y.1).isSome = true) := by
      rintro ⟨n, v⟩ hy
      exact (S.par n (List.of_mem_zip hy).1).imp_right fun q => ⟨q, PySem.W.cellsFrom_some _ _ _ (.inl q)⟩
    refine codeAny_call_function hr.depth (KX _ _ lk) rfl S.co S.gen rfl (PySem.W.codeRec_of KX hcd) (hb _ _ _ _ (wpAny_newFunctionEnv_cells S.kind kinds fun env he s1 entered => ?_))
    subst he
    obtain ⟨t, ht, hq⟩ := body cdv A outer s H vs Q E (hr.deeper _) gd hsp
    have J := inv_start (CX := CX) (E := E) S hr.hd e0 (len _ _ _ _ hsp) rv entered
    refine ⟨(e0.mod.nolimit.keeps stays).keeps entered.toInCall.keep, codeAny_func (wpAny_mono (ht.run [] s1 (L2.start N vs) H _ J hq) (fun fl s' hs => ?_) fun _ _ z => z)⟩
    cases fl with
    | next =>
      obtain ⟨_, G, J', q⟩ := hs
      exact ⟨.non, G, J'.os, J'.bare, J'.base, J'.hok, rfl, q⟩
    | ret u =>
      obtain ⟨v, _, G, J', r', q⟩ := hs
      exact ⟨v, G, J'.os, J'.bare, J'.base, J'.hok, r', q⟩
    | brk => exact hs.elim fun _ h => h.elim fun _ h => h.2.elim
    | cont => exact hs.elim fun _ h => h.elim fun _ h => h.2.elim
end
section
variable {X : Cx} {CX : CXT} {k : Nat} {f : Addr} {fd : FuncData} {ps : List Str} {sp : Sp} {dvs : List V} {ds : List Value} {E : XK} {x : Str} {p pos : Pos} {e : Expr} {es : List Expr} {t : TA}
theorem run_g {pins : List (Addr × Obj)} {σ : St} {H : Hp} {s : Shared} {Q : VK} {us : List Value} {vs : List V} (F : FnG X.prog X.w X.K X.mg X.base CX k f fd ps sp) (hr : Room k X.A) (gd : X.A.guards = some []) (hb : Binds X.K fd ps ds) (hd : Vals dvs ds) (hx : Passes CX X E)
    (J : Inv X pins σ H s) (r : Vals vs us) (h : sp (vs ++ dvs) H Q E) : wpAny (model X.prog X.w) X.A (call (.ref f) us) (EP X pins σ Q) X.xe s := by
  have all := r.append hd
  have n : (us ++ ds).length = ps.length := all.length ▸ F.len _ _ _ _ h
  have c := F.run X.A X.stack s H ⟨us, []⟩ (us ++ ds) (vs ++ dvs) Q E hr gd J.env0 (hb s us J.kIn n) all h
  refine wpAny_call (codeAny_mono c fun r s' q => ?_)
  rcases r with e | fl
  · exact hx pins σ H s e s' J q
  · cases fl with
    | ret u => exact J.after q
    | _ => exact q.elim
theorem pe_callG (F : FnG X.prog X.w X.K X.mg X.base CX k f fd ps sp) (hr : Room k X.A) (gd : X.A.guards = some []) (hg : Gl X x) (hm : X.mg x = some (.ref f)) (hk : PySem.W.keepIn X.K (.ref f) = true) (hb : Binds X.K fd ps ds) (hd : Vals dvs ds) (hx : Passes CX X E)
    (ha : PA X (e :: es) t) (hdb : (x == ("__debug__" : Str)) = false := by decide) (he : starEach (e :: es) X.env = (false, eval e X.env) :: starEach es X.env := by rfl) (hpl : (backTo pos (starEach es X.env)).any (·.1) = false := by rfl) :
    PE X (.Call (.Name x p) (e :: es) [] pos) (tCall sp dvs E t) where
  run pins s σ H Q J h := wpAny_Call_Name_kw (ld_glob J hg hm (PySem.W.callWith_K (h₀ := X.base) J.ok.mod.kin hk (thn (ha.run pos pins s σ H _ J h) fun us s1 hh => by
    obtain ⟨vs, H1, J1, r, q⟩ := hh
    exact ⟨J1.kIn, run_g F hr gd hb hd hx J1 r q⟩) he hpl) hdb)
theorem pe_callG0 (F : FnG X.prog X.w X.K X.mg X.base CX k f fd ps sp) (hr : Room k X.A) (gd : X.A.guards = some []) (hg : Gl X x) (hm : X.mg x = some (.ref f)) (hk : PySem.W.keepIn X.K (.ref f) = true) (hb : Binds X.K fd ps ds) (hd : Vals dvs ds) (hx : Passes CX X E)
    (hdb : (x == ("__debug__" : Str)) = false := by decide) : PE X (.Call (.Name x p) [] [] pos) (tCall sp dvs E tNil) where
  run pins s σ H Q J h := wpAny_Call_Name_kw (ld_glob J hg hm (PySem.W.callWith_K0 J.kIn hk (run_g (us := []) F hr gd hb hd hx J .nil h)) hdb)
end

/-! ### a def's promise by a function of contents -/
/-- the slots at the entry -/
def slOf : D → Sl
  | .lst ds => .bor ds
  | d => .val d
def rho0 (n : Nat) (ds : List D) : Rho := ds.map slOf ++ List.replicate (n - ds.length) .emp
/-- a def's function from its body's, nothing raised -/
def def0 (np n : Nat) (g : Gx) (ds : List D) (S : Sto) : Res := if ds.length = np then (match g (rho0 n ds) S with
    | .ret d S => .ok d S
    | .nx _ S => .ok .non S
    | _ => .stuck) else .stuck
/-- .. or raised -/
def defX (np n : Nat) (g : Gx) (ds : List D) (S : Sto) : Res := if ds.length = np then (match g (rho0 n ds) S with
    | .ret d S => .ok d S
    | .nx _ S => .ok .non S
    | .err c fs _ S => .err c fs S
    | _ => .stuck) else .stuck
theorem def0_len {np n : Nat} {g : Gx} {ds : List D} {S : Sto} (h : ds.length ≠ np) : def0 np n g ds S = .stuck := if_neg h
theorem def0_err {np n : Nat} {g : Gx} {ds : List D} {S S' : Sto} {c : Str} {fs : List (Str × D)} : def0 np n g ds S ≠ .err c fs S' := by
  unfold def0
  split
  · split <;> (intro z; cases z)
  · intro z; cases z
/-- what a def promises, its function given -/
def spF (K : PySem.W.Frag) (mg : Str → Option Value) (np : Nat) (f : List D → Sto → Res) : Sp := fun vs H Q E => ∃ M p S ds, ds.length = np ∧ SR K mg M p H S ∧ (∀ a, M a → H a ≠ none) ∧ Holds false K mg M p H ds vs ∧
  match f ds S with
  | .ok d S' => ∀ v M' p' H', Ext M p H M' p' H' → (∀ a, M a → M' a) → SR K mg M' p' H' S' → (∀ a, M' a → H' a ≠ none) → Came .f K mg H M' p' H' d v → Q v H'
  | .err n fs S' => ∀ C d M' p' H', mg n = some (.ref C) → Ext M p H M' p' H' → (∀ a, M a → M' a) → SR K mg M' p' H' S' → (∀ a, M' a → H' a ≠ none) → ErrAt K mg M' p' H' d fs → E (.ref C) d H'
  | .stuck => False
theorem Holds.length {b : Bool} {K : PySem.W.Frag} {mg : Str → Option Value} {M : Addr → Prop} {p : List Addr} {H : Hp} : ∀ {ds : List D} {vs : List V}, Holds b K mg M p H ds vs → vs.length = ds.length
  | [], _, h => by unfold Holds at h; subst h; rfl
  | d :: ds, _, h => by
    unfold Holds at h
    obtain ⟨v, r, rfl, _, h3⟩ := h
    rw [List.length_cons, List.length_cons, Holds.length h3]
theorem Holds.get {b : Bool} {K : PySem.W.Frag} {mg : Str → Option Value} {M : Addr → Prop} {p : List Addr} {H : Hp} : ∀ {ds : List D} {vs : List V} {i : Nat} {d : D}, Holds b K mg M p H ds vs → ds[i]? = some d → ∃ v, vs[i]? = some v ∧ Hold b K mg M p H d v
  | [], _, _, _, _, e => by simp at e
  | d :: ds, _, 0, _, h, e => by
    unfold Holds at h
    obtain ⟨v, r, rfl, h2, h3⟩ := h
    simp at e; subst e
    exact ⟨v, rfl, h2⟩
  | d :: ds, _, i + 1, _, h, e => by
    unfold Holds at h
    obtain ⟨v, r, rfl, h2, h3⟩ := h
    obtain ⟨w, e1, e2⟩ := Holds.get (i := i) h3 (by simpa using e)
    exact ⟨w, by simpa using e1, e2⟩
/-- the context at a def's entry -/
def fc0 (K : PySem.W.Frag) (mg : Str → Option Value) (H : Hp) (p : List Addr) (M : Addr → Prop) (W : WX) : Fc := ⟨K, mg, H, p, M, W, fun _ => none, fun _ => False, []⟩
theorem FR.start {K : PySem.W.Frag} {mg : Str → Option Value} {H : Hp} {p : List Addr} {M : Addr → Prop} {W : WX} {S : Sto} {N : List Str} {ds : List D} {vs : List V} (R : SR K mg M p H S) (dom : ∀ a, M a → H a ≠ none) (h : Holds false K mg M p H ds vs) (hn : ds.length ≤ N.length) :
    FR (fc0 K mg H p M W) M p H (fun _ => none) (L2.start N vs) (rho0 N.length ds) S where
  ext := .refl
  M0 := fun _ m => m
  sto := R
  dom := dom
  own := fun _ _ h => nomatch h
  inj := fun _ _ _ h => nomatch h
  slots := fun i s hs => by
    have hl := h.length
    unfold rho0 at hs
    by_cases hi : i < ds.length
    · rw [List.getElem?_append_left (by simpa using hi), List.getElem?_map, List.getElem?_eq_getElem hi] at hs
      have hs' : slOf ds[i] = s := Option.some.inj hs
      obtain ⟨v, hv, t⟩ := h.get (List.getElem?_eq_getElem hi)
      have hx : (L2.start N vs)[i]? = some (some v) := by
        unfold L2.start
        rw [List.getElem?_append_left (by rw [List.length_map]; omega), List.getElem?_map, hv]
        rfl
      subst hs'
      cases hd : ds[i] with
      | lst xs => rw [hd] at t; exact ⟨rfl, v, hx, t⟩
      | _ => rw [hd] at t; exact ⟨rfl, v, hx, TV.rd t rfl⟩
    · rw [List.getElem?_append_right (by simpa using hi), List.getElem?_replicate] at hs
      split at hs
      · cases hs; exact rfl
      · cases hs
  len := by
    have hl := h.length
    unfold L2.start rho0
    simp only [List.length_append, List.length_map, List.length_replicate]
    omega
  pin := fun _ _ h => nomatch h
  pinM := fun _ h => absurd rfl h
  pinO := fun _ _ h => nomatch h
  pinP := fun _ _ _ h => nomatch h
  pinp := ⟨p, rfl⟩
  m0d := dom
  oln := fun _ _ h => nomatch h
  bor := fun i xs hs => by
    have hl := h.length
    unfold rho0 at hs
    by_cases hi : i < ds.length
    · rw [List.getElem?_append_left (by simpa using hi), List.getElem?_map, List.getElem?_eq_getElem hi] at hs
      have hs' : slOf ds[i] = .bor xs := Option.some.inj hs
      obtain ⟨v, hv, t⟩ := h.get (List.getElem?_eq_getElem hi)
      have hx : (L2.start N vs)[i]? = some (some v) := by
        unfold L2.start
        rw [List.getElem?_append_left (by rw [List.length_map]; omega), List.getElem?_map, hv]
        rfl
      cases hd : ds[i] with
      | lst ys =>
        rw [hd] at t
        obtain ⟨a, ws, rfl, h2, _⟩ := t
        exact ⟨a, hx, fun z => by
          have z : H a = none := z
          rw [h2] at z; cases z⟩
      | _ => rw [hd] at hs'; cases hs'
    · rw [List.getElem?_append_right (by simpa using hi), List.getElem?_replicate] at hs
      split at hs
      · cases hs
      · cases hs

/-- THE RULE for a def that raises nothing out -/
theorem qFn {P : Program} {w : World} {K : PySem.W.Frag} {mg : Str → Option Value} {base : Heap} {x qual : Str} {st : Stmt} {f : Addr} {fd : FuncData} {N ps : List Str} {k : Nat} {g : Gx} (F : Fun K x qual st f fd) (Sc : FnScope N ps (defScope st))
    (body : ∀ (cdv : Value) (A : Around) (outer : List Env) (s : Shared) (H : Hp) (E : XK) (c : Fc), c.K = K → c.mg = mg → Room k (A.deeper (envOfC qual (defScope st) s.heap.objs.size f cdv)) → A.guards = some [] →
      PSs (cxOf CX0 P w K mg base N qual (defScope st) f cdv A outer s H E).nox (defBody st) (TSx c g)) : FnG P w K mg base CX0 (k + 1) f fd ps (spF K mg ps.length (def0 ps.length N.length g)) := by
  refine fnG_of F Sc (fun vs H Q E ⟨M, p, S, ds, h1, _, _, h2, _⟩ => h2.length.trans h1) fun cdv A outer s H vs Q E hr gd hsp => ?_
  obtain ⟨M, p, S, ds, h1, R, dom, h2, h3⟩ := hsp
  refine ⟨TSx (fc0 K mg H p M fun _ _ _ _ => False) g, (body cdv A outer s H E _ rfl rfl hr gd).nox, ?_⟩
  have hn : ds.length ≤ N.length := by
    have := congrArg List.length Sc.pre
    rw [List.length_take] at this
    omega
  refine ⟨M, p, _, _, S, FR.start R dom h2 hn, ?_⟩
  unfold def0 at h3
  rw [if_pos h1] at h3
  cases z : g (rho0 N.length ds) S with
  | ret d S' => simp only [z] at h3; exact fun v M' p' H' e m R' dm t => h3 v M' p' H' e m R' dm t
  | nx r S' => simp only [z] at h3; exact fun σ' M' p' H' ow' R' => h3 .non M' p' H' R'.ext R'.M0 R'.sto R'.dom (by unfold Came RD; rfl)
  | err n fs r S' => simp only [z] at h3
  | brk r S' => simp only [z] at h3
  | ct r S' => simp only [z] at h3
  | stuck => simp only [z] at h3
/-- a call of a def by its function -/
def fDef (f : List D → Sto → Res) (a : Ax) : Fx := fun ρ S => (a ρ S).bind f
section
variable {X : Cx} {c : Fc} {k j n : Nat} {f : Addr} {fd : FuncData} {ps : List Str} {g : Gx} {x : Str} {p pos : Pos} {e : Expr} {es : List Expr} {a : Ax}
theorem call0 (hK : c.K = X.K) (hmg : c.mg = X.mg) (σ : St) (H : Hp) (Q : VK) (h : TX .f c (fDef (def0 ps.length n g) a) σ H Q) : TAx false c a σ H fun vs H1 => spF X.K X.mg ps.length (def0 ps.length n g) (vs ++ []) H1 Q E0 := by
  obtain ⟨M, p, ow, ρ, S, R, h⟩ := h
  refine ⟨M, p, ow, ρ, S, R, (RA.bind (b := false) h).mono fun vs H1 ⟨ds, S1, M1, p1, e1, R1, t1, h1⟩ => ?_⟩
  rw [hK, hmg] at t1
  have s1 := R1.sto
  rw [hK, hmg] at s1
  have nl : ds.length = ps.length := by
    by_cases z : ds.length = ps.length
    · exact z
    · rw [def0_len z] at h1; exact h1.elim
  refine ⟨M1, p1, S1, ds, nl, s1, R1.dom, by rw [List.append_nil]; exact t1, ?_⟩
  cases z : def0 ps.length n g ds S1 with
  | stuck => rw [z] at h1; exact h1
  | err n fs S' => exact absurd z def0_err
  | ok d S' =>
    rw [z] at h1
    intro v M' p' H' e' m' R' d' t'
    rw [← hK, ← hmg] at R' t'
    exact h1 v M' p' H' e' m' (R1.step e' m' R' d') t'
theorem qCall (hK : c.K = X.K) (hmg : c.mg = X.mg) (F : FnG X.prog X.w X.K X.mg X.base CX0 j f fd ps (spF X.K X.mg ps.length (def0 ps.length n g))) (hr : Room k X.A) (gd : X.A.guards = some []) (hm : X.mg x = some (.ref f)) (hk : PySem.W.keepIn X.K (.ref f) = true) (hb : Binds X.K fd ps [])
    (ha : PA X (e :: es) (TAx false c a)) (hg : Gl X x := by rfl) (hjk : j ≤ k := by decide) (hdb : (x == ("__debug__" : Str)) = false := by decide) (he : starEach (e :: es) X.env = (false, eval e X.env) :: starEach es X.env := by rfl) (hpl : (backTo pos (starEach es X.env)).any (·.1) = false := by rfl) :
    PE X (.Call (.Name x p) (e :: es) [] pos) (TX .f c (fDef (def0 ps.length n g) a)) :=
  peW (pe_callG F (hr.mono hjk) gd hg hm hk hb .nil pass0 ha hdb he hpl) (call0 hK hmg)
theorem qCall0 (hK : c.K = X.K) (hmg : c.mg = X.mg) (F : FnG X.prog X.w X.K X.mg X.base CX0 j f fd ps (spF X.K X.mg ps.length (def0 ps.length n g))) (hr : Room k X.A) (gd : X.A.guards = some []) (hm : X.mg x = some (.ref f)) (hk : PySem.W.keepIn X.K (.ref f) = true) (hb : Binds X.K fd ps [])
    (hg : Gl X x := by rfl) (hjk : j ≤ k := by decide) (hdb : (x == ("__debug__" : Str)) = false := by decide) : PE X (.Call (.Name x p) [] [] pos) (TX .f c (fDef (def0 ps.length n g) fNil)) :=
  peW (pe_callG0 F (hr.mono hjk) gd hg hm hk hb .nil pass0 hdb) fun σ H Q h => by
    obtain ⟨M, p, ow, ρ, S, R, h⟩ := call0 hK hmg σ H Q h
    exact h [] M p H .refl (fun _ m => m) R (by unfold Holds; rfl)
end
end QL

set_option Elab.async false
set_option linter.all false
set_option maxRecDepth 100000
/-! QG: statements, tests -/
namespace QL
open PySem PySem.Spec L2
open PyProof.Rows hiding St

/-! ### the frame behind a store -/
section
variable {c : Fc} {M M' : Addr → Prop} {p p' : List Addr} {H H' : Hp} {S : Sto} {ow : Nat → Option Addr} {σ : St} {ρ : Rho} {i : Nat}
/-- nobody's -/
abbrev off (ow : Nat → Option Addr) (i : Nat) : Nat → Option Addr := fun j => if j = i then none else ow j
abbrev onto (ow : Nat → Option Addr) (i : Nat) (a : Addr) : Nat → Option Addr := fun j => if j = i then some a else ow j
theorem off_some {j : Nat} {a : Addr} (h : off ow i j = some a) : j ≠ i ∧ ow j = some a := by
  unfold off at h
  split at h
  · cases h
  · exact ⟨by assumption, h⟩
theorem FR.setVal (R : FR c M p H ow σ ρ S) {v : V} {d : D} (h : RD c.K c.mg M p H d v) : FR c M p H (off ow i) (σ.set i (some v)) (ρ.set i (.val d)) S where
  ext := R.ext
  M0 := R.M0
  sto := R.sto
  dom := R.dom
  own := fun j a h => R.own j a (off_some h).2
  inj := fun j k a h1 h2 => R.inj j k a (off_some h1).2 (off_some h2).2
  slots := fun j s hs => by
    by_cases e : j = i
    · subst e
      have hj : j < ρ.length := by
        have := (List.getElem?_eq_some_iff.mp hs).1
        simpa using this
      rw [List.getElem?_set_self hj] at hs
      cases hs
      exact ⟨if_pos rfl, v, by rw [List.getElem?_set_self (by rw [R.len]; exact hj)], h⟩
    · rw [List.getElem?_set_ne (Ne.symm e)] at hs
      rw [List.getElem?_set_ne (Ne.symm e)]
      have q := R.slots j s hs
      rw [show off ow i j = ow j from if_neg e]
      exact q
  len := by rw [List.length_set, List.length_set]; exact R.len
  pin := R.pin
  pinM := R.pinM
  pinO := fun j a h => R.pinO j a (off_some h).2
  pinP := R.pinP
  pinp := R.pinp
  m0d := R.m0d
  oln := fun j a h => R.oln j a (off_some h).2
  bor := fun j xs hs => by
    by_cases e : j = i
    · subst e
      have hj : j < ρ.length := by
        have := (List.getElem?_eq_some_iff.mp hs).1
        simpa using this
      rw [List.getElem?_set_self hj] at hs
      cases hs
    · rw [List.getElem?_set_ne (Ne.symm e)] at hs
      rw [List.getElem?_set_ne (Ne.symm e)]
      exact R.bor j xs hs
theorem FR.setOwn (R : FR c M p H ow σ ρ S) {a : Addr} {vs : List V} {ds : List D} (hM : M a) (hp : a ∉ p) (h0 : c.H0 a = none) (hpn : c.pn a = none) (fresh : ∀ j, ow j ≠ some a) (hH : H a = some (.lst vs)) (h : RDs c.K c.mg M p H ds vs) :
    FR c M p H (onto ow i a) (σ.set i (some (.ref a))) (ρ.set i (.own ds)) S where
  ext := R.ext
  M0 := R.M0
  sto := R.sto
  dom := R.dom
  own := fun j b hb => by
    unfold onto at hb
    split at hb
    · cases hb; exact ⟨hM, hp, h0⟩
    · exact R.own j b hb
  inj := fun j k b h1 h2 => by
    unfold onto at h1 h2
    split at h1
    · cases h1
      split at h2
      · omega
      · exact absurd h2 (fresh k)
    · split at h2
      · cases h2; exact absurd h1 (fresh j)
      · exact R.inj j k b h1 h2
  slots := fun j s hs => by
    by_cases e : j = i
    · subst e
      have hj : j < ρ.length := by
        have := (List.getElem?_eq_some_iff.mp hs).1
        simpa using this
      rw [List.getElem?_set_self hj] at hs
      cases hs
      exact ⟨a, vs, if_pos rfl, by rw [List.getElem?_set_self (by rw [R.len]; exact hj)], hH, h⟩
    · rw [List.getElem?_set_ne (Ne.symm e)] at hs
      rw [List.getElem?_set_ne (Ne.symm e)]
      have q := R.slots j s hs
      rw [show onto ow i a j = ow j from if_neg e]
      exact q
  len := by rw [List.length_set, List.length_set]; exact R.len
  pin := R.pin
  pinM := R.pinM
  pinO := fun j b hb => by
    unfold onto at hb
    split at hb
    · cases hb; exact hpn
    · exact R.pinO j b hb
  pinP := R.pinP
  pinp := R.pinp
  m0d := R.m0d
  oln := fun j b hb => by
    unfold onto at hb
    split at hb
    · cases hb; exact ⟨vs, hH⟩
    · exact R.oln j b hb
  bor := fun j xs hs => by
    by_cases e : j = i
    · subst e
      have hj : j < ρ.length := by
        have := (List.getElem?_eq_some_iff.mp hs).1
        simpa using this
      rw [List.getElem?_set_self hj] at hs
      cases hs
    · rw [List.getElem?_set_ne (Ne.symm e)] at hs
      rw [List.getElem?_set_ne (Ne.symm e)]
      exact R.bor j xs hs
theorem FR.h0 (R : FR c M p H ow σ ρ S) {a : Addr} (h : H a = none) : c.H0 a = none ∧ c.pn a = none ∧ ∀ j, ow j ≠ some a := by
  refine ⟨R.ext.back h, ?_, fun j e => ?_⟩
  · cases q : c.pn a with
    | none => rfl
    | some o => rw [R.pin a o q] at h; cases h
  · exact R.dom a (R.own j a e).1 h
/-- a value comes to a slot -/
def putSl (d : D) : Sl := match d with
  | .lst ds => .own ds
  | d => .val d
end

section
variable {X : Cx} {c : Fc} {g g1 g2 : Gx} {f : Fx} {st : Stmt} {sts : List Stmt} {e : Expr} {pos : Pos}
/-! ### blocks -/
def gNext : Gx := fun ρ S => .nx ρ S
def gSeq (g1 g2 : Gx) : Gx := fun ρ S => match g1 ρ S with
  | .nx ρ' S' => g2 ρ' S'
  | r => r
theorem RS.of {r : SRes} {D D' : Ends} (h : RS c r D) (n : ∀ σ H, D.nx σ H → D'.nx σ H) (t : ∀ v H, D.rt v H → D'.rt v H) (b : ∀ σ H, D.bk σ H → D'.bk σ H) (k : ∀ σ H, D.ct σ H → D'.ct σ H) : RS c r D' := by
  cases r with
  | nx ρ S => exact fun σ' M' p' H' ow' R => n _ _ (h σ' M' p' H' ow' R)
  | ret d S => exact fun v M' p' H' e m s dm q => t _ _ (h v M' p' H' e m s dm q)
  | brk ρ S => exact fun σ' M' p' H' ow' R => b _ _ (h σ' M' p' H' ow' R)
  | ct ρ S => exact fun σ' M' p' H' ow' R => k _ _ (h σ' M' p' H' ow' R)
  | err n fs ρ S => exact h
  | stuck => exact h
theorem qsNil : PSs X [] (TSx c gNext) := pssW pss_nil fun D σ H ⟨M, p, ow, ρ, S, R, h⟩ => h σ M p H ow R
theorem qsCons (h1 : PS X st (TSx c g1)) (h2 : PSs X sts (TSx c g2)) : PSs X (st :: sts) (TSx c (gSeq g1 g2)) := pssW (pss_cons h1 h2) fun D σ H ⟨M, p, ow, ρ, S, R, h⟩ => by
  refine ⟨M, p, ow, ρ, S, R, ?_⟩
  unfold gSeq at h
  cases z : g1 ρ S with
  | nx ρ' S' => rw [z] at h; exact fun σ' M' p' H' ow' R' => ⟨M', p', ow', ρ', S', R', h⟩
  | ret d S => rw [z] at h; exact h
  | brk ρ S => rw [z] at h; exact h
  | ct ρ S => rw [z] at h; exact h
  | err n fs ρ S => rw [z] at h; exact h
  | stuck => rw [z] at h; exact h
theorem qsOne (h1 : PS X st (TSx c g1)) : PSs X [st] (TSx c g1) := pss_one h1
theorem qPass : PS X (.Pass pos) (TSx c gNext) := psW ps_pass fun D σ H ⟨M, p, ow, ρ, S, R, h⟩ => h σ M p H ow R
def gBrk : Gx := fun ρ S => .brk ρ S
def gCt : Gx := fun ρ S => .ct ρ S
theorem qBrk : PS X (.Break pos) (TSx c gBrk) := psW ps_break fun D σ H ⟨M, p, ow, ρ, S, R, h⟩ => h σ M p H ow R
theorem qCt : PS X (.Continue pos) (TSx c gCt) := psW ps_continue fun D σ H ⟨M, p, ow, ρ, S, R, h⟩ => h σ M p H ow R
/-- what is never reached -/
def gNever : Gx := fun _ _ => .stuck
theorem qNever : PS X st (TSx c gNever) := psW ps_never fun D σ H ⟨M, p, ow, ρ, S, R, h⟩ => h
/-- from an expression's answer to a statement's -/
def thenG (r : Res) (ρ : Rho) (k : D → Sto → SRes) : SRes := match r with
  | .ok d S => k d S
  | .err n fs S => .err n fs ρ S
  | .stuck => .stuck
theorem RS.then {k : Kd} {M : Addr → Prop} {p : List Addr} {H : Hp} {ow : Nat → Option Addr} {σ : St} {ρ : Rho} {r : Res} {t : D → Sto → SRes} {D : Ends} (h : RS c (thenG r ρ t) D) :
    RX k c M p H ow σ ρ r fun v H1 => ∃ d S1 M1 p1, Ext M p H M1 p1 H1 ∧ FR c M1 p1 H1 ow σ ρ S1 ∧ Came k c.K c.mg H M1 p1 H1 d v ∧ RS c (t d S1) D := by
  cases r with
  | ok d S => exact fun v M1 p1 H1 e m R t => ⟨d, S, M1, p1, e, R, t, h⟩
  | err n fs S => exact fun C d M' p' H' hc e m R t => h C d σ M' p' H' ow hc R t
  | stuck => exact h
/-! ### names stored -/
def gSet (i : Nat) (f : Fx) : Gx := fun ρ S => thenG (f ρ S) ρ fun d S => .nx (ρ.set i (putSl d)) S
def gSetR (i : Nat) (f : Fx) : Gx := fun ρ S => thenG (f ρ S) ρ fun d S => .nx (ρ.set i (.val d)) S
theorem FR.put {M M1 : Addr → Prop} {p p1 : List Addr} {H H1 : Hp} {S S1 : Sto} {ow : Nat → Option Addr} {σ : St} {ρ : Rho} {d : D} {v : V} {i : Nat} (R0 : FR c M p H ow σ ρ S) (R : FR c M1 p1 H1 ow σ ρ S1) (t : Came .f c.K c.mg H M1 p1 H1 d v) : ∃ ow', FR c M1 p1 H1 ow' (σ.set i (some v)) (ρ.set i (putSl d)) S1 := by
  cases d with
  | lst ds =>
    obtain ⟨a, vs, rfl, h2, h3, h4, h5, h6⟩ := t
    obtain ⟨z1, z2, z3⟩ := R0.h0 h4
    exact ⟨_, R.setOwn h2 h3 z1 z2 z3 h5 h6⟩
  | _ => exact ⟨_, R.setVal t⟩
theorem qSet {i : Nat} {x : Str} {pos' : Pos} (hN : X.N.Nodup) (he : PE X e (TX .f c f)) (hi : X.N[i]? = some x := by rfl) (hx : Loc X.env.scope x := by first | exact .inl rfl | exact .inr rfl) (hs : swapsWith e (some (.Name x pos')) pos.line X.env = pure false := by rfl) (hf : X.fn x = true ∨ X.env.scope.names.lookup x = some .local := by first | exact .inl rfl | exact .inr rfl | assumption) :
    PS X (.Assign [.Name x pos'] e pos) (TSx c (gSet i f)) := psW (ps_set hN hi hx he hs hf) fun D σ H ⟨M, p, ow, ρ, S, R, h⟩ => by
  refine ⟨M, p, ow, ρ, S, R, (RS.then (k := .f) h).mono fun v H1 ⟨d, S1, M1, p1, e1, R1, t1, h1⟩ => ?_⟩
  obtain ⟨ow', R2⟩ := FR.put (i := i) R R1 t1
  exact h1 _ _ _ _ _ R2
theorem qSetR {i : Nat} {x : Str} {pos' : Pos} (hN : X.N.Nodup) (he : PE X e (TX .r c f)) (hi : X.N[i]? = some x := by rfl) (hx : Loc X.env.scope x := by first | exact .inl rfl | exact .inr rfl) (hs : swapsWith e (some (.Name x pos')) pos.line X.env = pure false := by rfl) (hf : X.fn x = true ∨ X.env.scope.names.lookup x = some .local := by first | exact .inl rfl | exact .inr rfl | assumption) :
    PS X (.Assign [.Name x pos'] e pos) (TSx c (gSetR i f)) := psW (ps_set hN hi hx he hs hf) fun D σ H ⟨M, p, ow, ρ, S, R, h⟩ => by
  refine ⟨M, p, ow, ρ, S, R, (RS.then (k := .r) h).mono fun v H1 ⟨d, S1, M1, p1, e1, R1, t1, h1⟩ => ?_⟩
  exact h1 _ _ _ _ _ (R1.setVal t1)
/-! ### expressions alone, return -/
def gExpr (f : Fx) : Gx := fun ρ S => thenG (f ρ S) ρ fun _ S => .nx ρ S
theorem qExpr (he : PE X e (TX .t c f)) (hs : swapsWith e none pos.line X.env = pure false := by rfl) : PS X (.Expr e pos) (TSx c (gExpr f)) := psW (ps_expr he hs) fun D σ H ⟨M, p, ow, ρ, S, R, h⟩ => by
  refine ⟨M, p, ow, ρ, S, R, (RS.then (k := .t) h).mono fun v H1 ⟨d, S1, M1, p1, e1, R1, t1, h1⟩ => ?_⟩
  exact h1 _ _ _ _ _ R1
def gRet (f : Fx) : Gx := fun ρ S => thenG (f ρ S) ρ fun d S => .ret d S
theorem Came.back0 {K : PySem.W.Frag} {mg : Str → Option Value} {M : Addr → Prop} {p : List Addr} {H H' H'' : Hp} {d : D} {v : V} (b : ∀ a, H' a = none → H a = none) (h : Came .f K mg H' M p H'' d v) : Came .f K mg H M p H'' d v := by
  cases d with
  | lst ds => obtain ⟨a, vs, h1, h2, h3, h4, h5⟩ := h; exact ⟨a, vs, h1, h2, h3, b a h4, h5⟩
  | _ => exact h
theorem qRet (he : PE X e (TX .f c f)) : PS X (.Return (some e) pos) (TSx c (gRet f)) := psW (ps_ret he) fun D σ H ⟨M, p, ow, ρ, S, R, h⟩ => by
  refine ⟨M, p, ow, ρ, S, R, (RS.then (k := .f) h).mono fun v H1 ⟨d, S1, M1, p1, e1, R1, t1, h1⟩ => ?_⟩
  exact h1 v M1 p1 H1 R1.ext R1.M0 R1.sto R1.dom (t1.back0 fun a => R.ext.back)
/-- return x, x a list of its own, or no list -/
def gRetV (i : Nat) : Gx := fun ρ S => match ρ[i]? with
  | some (.val d) => if d.nl then .ret d S else .stuck
  | some (.own ds) => .ret (.lst ds) S
  | _ => .stuck
theorem qRetV (i : Nat) {x : Str} {pos' : Pos} (hN : X.N[i]? = some x := by rfl) (hv : Vis X.env.scope x := by first | exact Or.inl rfl | exact Or.inr (Or.inl rfl) | exact Or.inr (Or.inr rfl)) (hd : (x == ("__debug__" : Str)) = false := by decide)
    (hcd : (x == ("__classdict__" : Str)) = false := by decide) : PS X (.Return (some (.Name x pos')) pos) (TSx c (gRetV i)) := psW (ps_ret (pe_var hN hv hd hcd)) fun D σ H ⟨M, p, ow, ρ, S, R, h⟩ => by
  unfold gRetV at h
  cases z : ρ[i]? with
  | none => rw [z] at h; exact h.elim
  | some s =>
    rw [z] at h
    have q := R.slots i s z
    cases s with
    | emp => exact h.elim
    | bor ds => exact h.elim
    | val d =>
      obtain ⟨_, v, h1, h2⟩ := q
      cases hn : d.nl with
      | false => simp only [hn] at h; exact h.elim
      | true =>
        simp only [hn, if_true] at h
        refine ⟨v, h1, h v M p H R.ext R.M0 R.sto R.dom ?_⟩
        cases d with
        | lst ds => cases hn
        | _ => exact h2
    | own ds =>
      obtain ⟨a, vs, h1, h2, h3, h4⟩ := q
      obtain ⟨z1, z2, z3⟩ := R.own i a h1
      exact ⟨.ref a, h2, h _ M p H R.ext R.M0 R.sto R.dom ⟨a, vs, rfl, z1, z2, z3, h3, h4⟩⟩
def gRetN : Gx := fun _ S => .ret .non S
theorem qRetN : PS X (.Return none pos) (TSx c gRetN) := psW ps_retN fun D σ H ⟨M, p, ow, ρ, S, R, h⟩ => h .non M p H R.ext R.M0 R.sto R.dom (by unfold Came RD; rfl)
/-- a list of a slot's own is changed no more -/
def gFrz (i : Nat) (g : Gx) : Gx := fun ρ S => match ρ[i]? with
  | some (.own ds) => g (ρ.set i (.val (.lst ds))) S
  | some (.val d) => g ρ S
  | _ => .stuck
theorem FR.freeze {M : Addr → Prop} {p : List Addr} {H : Hp} {S : Sto} {ow : Nat → Option Addr} {σ : St} {ρ : Rho} {i : Nat} {ds : List D} (R : FR c M p H ow σ ρ S) (h : ρ[i]? = some (.own ds)) : ∃ M' ow', FR c M' p H ow' σ (ρ.set i (.val (.lst ds))) S := by
  obtain ⟨a, vs, h1, h2, h3, h4⟩ := R.slots i _ h
  obtain ⟨z1, z2, z3⟩ := R.own i a h1
  have m2 : ∀ b, (M b ∧ b ≠ a) → M b := fun b z => z.1
  have hl : i < ρ.length := (List.getElem?_eq_some_iff.mp h).1
  refine ⟨fun b => M b ∧ b ≠ a, off ow i, ?_⟩
  have R1 : FR c M p H (off ow i) σ (ρ.set i .emp) S := {
    ext := R.ext
    M0 := R.M0
    sto := R.sto
    dom := R.dom
    own := fun j b hb => R.own j b (off_some hb).2
    inj := fun j k b hb hc => R.inj j k b (off_some hb).2 (off_some hc).2
    slots := fun j s hs => by
      by_cases e : j = i
      · subst e
        rw [List.getElem?_set_self hl] at hs
        cases hs
        exact if_pos rfl
      · rw [List.getElem?_set_ne (Ne.symm e)] at hs
        have q := R.slots j s hs
        rw [show off ow i j = ow j from if_neg e]
        exact q
    len := by rw [List.length_set]; exact R.len
    pin := R.pin
    pinM := R.pinM
    pinO := fun j b hb => R.pinO j b (off_some hb).2
    pinP := R.pinP
    pinp := R.pinp
    m0d := R.m0d
    oln := fun j a h => R.oln j a (off_some h).2
    bor := fun j xs hs => by
      by_cases e : j = i
      · subst e
        rw [List.getElem?_set_self hl] at hs
        cases hs
      · rw [List.getElem?_set_ne (Ne.symm e)] at hs
        exact R.bor j xs hs }
  have R2 := R1.anti m2 (fun b hb => ⟨R.M0 b hb, fun z => R.m0d b hb (by rw [z]; exact z3)⟩) (fun b hb => ⟨R.sto.inM b hb, fun z => z2 (by rw [← z]; exact hb)⟩)
    fun j b hb => ⟨(R.own j b (off_some hb).2).1, fun z => (off_some hb).1 (R.inj j i a (by rw [← z]; exact (off_some hb).2) h1)⟩
  have R3 := R2.setVal (i := i) (v := .ref a) (d := .lst ds) (by unfold RD; exact ⟨a, vs, rfl, h3, fun z => z.2 rfl, RDs.anti m2 ds vs h4⟩)
  have e1 : off (off ow i) i = off ow i := by
    funext j
    unfold off
    split <;> rfl
  have e2 : σ.set i (some (.ref a)) = σ := by
    have hi : i < σ.length := by rw [R.len]; exact hl
    apply List.ext_getElem? 
    intro j
    by_cases e : j = i
    · subst e; rw [List.getElem?_set_self hi]; exact h2.symm
    · rw [List.getElem?_set_ne (Ne.symm e)]
  have e3 : (ρ.set i .emp).set i (.val (.lst ds)) = ρ.set i (.val (.lst ds)) := List.set_set ..
  rw [e1, e2, e3] at R3
  exact R3
/-- ahead of a statement -/
theorem qFrz {i : Nat} (h : PS X st (TSx c g)) : PS X st (TSx c (gFrz i g)) := psW h fun D σ H ⟨M, p, ow, ρ, S, R, h⟩ => by
  unfold gFrz at h
  cases e : ρ[i]? with
  | none => rw [e] at h; exact h.elim
  | some s =>
    rw [e] at h
    cases s with
    | emp => exact h.elim
    | bor ds => exact h.elim
    | val d => exact ⟨M, p, ow, ρ, S, R, h⟩
    | own ds =>
      obtain ⟨M', ow', R'⟩ := R.freeze e
      exact ⟨M', p, ow', _, S, R', h⟩
def gIf (ft : Fx) (g1 g2 : Gx) : Gx := fun ρ S => thenG (ft ρ S) ρ fun d S => match d with
  | .bl true => g1 ρ S
  | .bl false => g2 ρ S
  | _ => .stuck
theorem qIf {t : Expr} {ft : Fx} {as bs : List Stmt} (ht : PT X t (TB c ft)) (ha : PSs X as (TSx c g1)) (hb : PSs X bs (TSx c g2)) : PS X (.If t as bs pos) (TSx c (gIf ft g1 g2)) := psW (ps_if ht ha hb) fun D σ H ⟨M, p, ow, ρ, S, R, h⟩ => by
  refine ⟨M, p, ow, ρ, S, R, ?_⟩
  unfold gIf at h
  cases z : ft ρ S with
  | stuck => rw [z] at h; exact h
  | err n fs S' => rw [z] at h; exact fun C d M' p' H' hc e m R t => h C d σ M' p' H' ow hc R t
  | ok d S' =>
    rw [z] at h
    cases d with
    | bl b =>
      intro M' p' H' e m R'
      cases b with
      | true => exact ⟨M', p', ow, ρ, S', R', h⟩
      | false => exact ⟨M', p', ow, ρ, S', R', h⟩
    | _ => exact h
end
end QL

set_option Elab.async false
set_option linter.all false
set_option maxRecDepth 100000
/-! QH: lists of one's own changed; what stays through a body; targets -/
namespace QL
open PySem PySem.Spec L2
open PyProof.Rows hiding St

/-- the standing side of a context -/
structure WB where
  W : WX
  H0 : Hp
  p0 : List Addr
  M0 : Addr → Prop
abbrev Fc.wb (c : Fc) : WB := ⟨c.W, c.H0, c.p0, c.M0⟩
structure Cc (K : PySem.W.Frag) (mg : Str → Option Value) (W : WB) (c : Fc) : Prop where
  K : c.K = K
  mg : c.mg = mg
  W : c.wb = W

/-! ### a list that may be changed is changed -/
section
variable {K : PySem.W.Frag} {mg : Str → Option Value} {M M' : Addr → Prop} {p p' : List Addr} {H H' : Hp} {S : Sto} {a : Addr} {o : HO}
theorem mut_ne {b : Addr} {u : HO} (mu : Wx (H a)) (h : H b = some u) (n : ¬ Wx (some u)) : b ≠ a := fun z => by
  rw [← z, h] at mu; exact n mu
theorem TQ.chg (mu : Wx (H a)) {z : Bool} {b : Addr} {vs : List V} (h : TQ z K H b vs) : TQ z K (upd H a o) b vs := by
  cases z with
  | true =>
    rcases h with ⟨u, h, d⟩ | h
    · exact .inl ⟨u, by rw [upd_ne (mut_ne mu h fun z => z)]; exact h, d⟩
    · exact .inr h
  | false =>
    rcases h with (h | ⟨u, h⟩) | h
    · exact .inl (.inl (by rw [upd_ne (mut_ne mu h fun z => z)]; exact h))
    · exact .inl (.inr ⟨u, by rw [upd_ne (mut_ne mu h fun z => z)]; exact h⟩)
    · exact .inr h
theorem SqZ.chg (mu : Wx (H a)) {b : Addr} {vs : List V} (h : SqZ K H b vs) : SqZ K (upd H a o) b vs := by
  rcases h with ⟨u, h⟩ | h
  · exact .inl ⟨u, by rw [upd_ne (mut_ne mu h fun z => z)]; exact h⟩
  · exact .inr h
mutual
theorem RD.chg (hM : M a) (mu : Wx (H a)) : ∀ (d : D) (v : V), RD K mg M p H d v → RD K mg M p (upd H a o) d v
  | .non, _, h => by unfold RD at h ⊢; exact h
  | .bl _, _, h => by unfold RD at h ⊢; exact h
  | .int _, _, h => by unfold RD at h ⊢; exact h
  | .str _, _, h => by unfold RD at h ⊢; exact h
  | .glo _, _, h => by unfold RD at h ⊢; exact h
  | .adr _, _, h => by unfold RD at h ⊢; exact h
  | .ref n, _, h => by unfold RD at h ⊢; exact h
  | .tup z ds, v, h => by
    unfold RD at h ⊢
    obtain ⟨b, vs, h1, h2, h3⟩ := h
    exact ⟨b, vs, h1, h2.chg mu, RDs.chg hM mu ds vs h3⟩
  | .lst ds, v, h => by
    unfold RD at h ⊢
    obtain ⟨b, vs, h1, h2, h3, h4⟩ := h
    exact ⟨b, vs, h1, by rw [upd_ne (fun z => h3 (by rw [z]; exact hM))]; exact h2, h3, RDs.chg hM mu ds vs h4⟩
  | .frz ds, v, h => by
    unfold RD at h ⊢
    obtain ⟨b, vs, h1, h2, h3⟩ := h
    exact ⟨b, vs, h1, h2.chg mu, RDs.chg hM mu ds vs h3⟩
theorem RDs.chg (hM : M a) (mu : Wx (H a)) : ∀ (ds : List D) (vs : List V), RDs K mg M p H ds vs → RDs K mg M p (upd H a o) ds vs
  | [], _, h => by unfold RDs at h ⊢; exact h
  | d :: ds, _, h => by
    unfold RDs at h ⊢
    obtain ⟨v, r, h1, h2, h3⟩ := h
    exact ⟨v, r, h1, RD.chg hM mu d v h2, RDs.chg hM mu ds r h3⟩
end
theorem RKs.chg {κ : Type} (hM : M a) (mu : Wx (H a)) : ∀ (ds : List (κ × D)) (vs : List (κ × V)), RKs K mg M p H ds vs → RKs K mg M p (upd H a o) ds vs
  | [], _, h => by unfold RKs at h ⊢; exact h
  | d :: ds, _, h => by
    unfold RKs at h ⊢
    obtain ⟨v, r, h1, h2, h3⟩ := h
    exact ⟨v, r, h1, RD.chg hM mu _ v h2, RKs.chg hM mu ds r h3⟩
theorem tab_chg (mu : Wx (H a)) {b : Addr} {q : Str} (ne : b ≠ a) (h : LamX.TabS H b q) : LamX.TabS (upd H a o) b q := by
  obtain ⟨vs, h1, h2, h3⟩ := h
  refine ⟨vs, by rw [upd_ne ne]; exact h1, h2, fun pos cv hc => ?_⟩
  obtain ⟨u, e1, e2⟩ := h3 pos cv hc
  exact ⟨u, e1, by rw [upd_ne (mut_ne mu e2 fun z => z)]; exact e2⟩
theorem SR.chg (R : SR K mg M p H S) (hM : M a) (mu : Wx (H a)) (ha : a ∉ p) : SR K mg M p (upd H a o) S := by
  refine ⟨R.len, R.nd, R.inM, fun n u h => ?_⟩
  obtain ⟨b, hb, q⟩ := R.at_ n u h
  have ne : b ≠ a := fun z => ha (by rw [← z]; exact List.mem_of_getElem? hb)
  refine ⟨b, hb, ?_⟩
  cases u with
  | lst ds => obtain ⟨vs, h1, h2⟩ := q; exact ⟨vs, by rw [upd_ne ne]; exact h1, RDs.chg hM mu ds vs h2⟩
  | dct ds => obtain ⟨vs, h1, h2⟩ := q; exact ⟨vs, by rw [upd_ne ne]; exact h1, RKs.chg hM mu ds vs h2⟩
  | dctT ds => obtain ⟨vs, h1, h2⟩ := q; exact ⟨vs, by rw [upd_ne ne]; exact h1, RKs.chg hM mu ds vs h2⟩
  | ins c fs => obtain ⟨vs, ⟨C, dx, g1, h1⟩, h2⟩ := q; exact ⟨vs, ⟨C, dx, g1, by rw [upd_ne ne]; exact h1⟩, RKs.chg hM mu fs vs h2⟩
  | fdK fs => obtain ⟨vs, ⟨q, h1⟩, h2⟩ := q; exact ⟨vs, ⟨q, by rw [upd_ne ne]; exact h1⟩, RKs.chg hM mu fs vs h2⟩
  | fdT fs => obtain ⟨vs, ⟨q, h1⟩, h2⟩ := q; exact ⟨vs, ⟨q, by rw [upd_ne ne]; exact h1⟩, RKs.chg hM mu fs vs h2⟩
  | fl ds => obtain ⟨vs, ⟨q, h1⟩, h2⟩ := q; exact ⟨vs, ⟨q, by rw [upd_ne ne]; exact h1⟩, RDs.chg hM mu ds vs h2⟩
  | tab _ => exact ⟨q.1, tab_chg mu ne q.2⟩
theorem Ext.chg (e : Ext M p H M' p' H') (h : H a = none) : Ext M p H M' p' (upd H' a o) :=
  ⟨fun b u hb hp => by rw [upd_ne (ne_of_none hb h)]; exact e.keep b u hb hp, fun b hb => by
    by_cases z : b = a
    · rw [z, upd_same]; simp
    · rw [upd_ne z]; exact e.dom b hb, e.phi, e.mm, fun b q u hb => by rw [upd_ne (ne_of_none hb h)]; exact e.fz b q u hb⟩
end
section
variable {c : Fc} {M M' : Addr → Prop} {p p' : List Addr} {H H' : Hp} {S S' : Sto} {ow ow' : Nat → Option Addr} {σ σ' : St} {ρ ρ' : Rho} {i : Nat} {a : Addr}
/-- the list at a, ours alone, is changed; ρ' tells it -/
theorem FR.upd0 (R : FR c M p H ow σ ρ S) (hM : M a) (hp : a ∉ p) (h0 : c.H0 a = none) (hpn : c.pn a = none) (mu : Wx (H a)) {vs : List V} {ρ' : Rho} (hlen : ρ'.length = ρ.length)
    (hρ : ∀ j s, ρ'[j]? = some s → (ow j = some a ∧ ∃ ds, s = .own ds ∧ RDs c.K c.mg M p H ds vs ∧ σ[j]? = some (some (.ref a))) ∨ (ow j ≠ some a ∧ ρ[j]? = some s)) : FR c M p (upd H a (.lst vs)) ow σ ρ' S where
  ext := R.ext.chg h0
  M0 := R.M0
  sto := R.sto.chg hM mu hp
  dom := fun b m => by
    by_cases z : b = a
    · rw [z, upd_same]; simp
    · rw [upd_ne z]; exact R.dom b m
  own := R.own
  inj := R.inj
  slots := fun j s hs => by
    rcases hρ j s hs with ⟨z, ds, rfl, r, hx⟩ | ⟨z, hs⟩
    · exact ⟨a, vs, z, hx, upd_same, RDs.chg hM mu ds vs r⟩
    · have q := R.slots j s hs
      cases s with
      | emp => exact q
      | val d => obtain ⟨h1, v, h2, h3⟩ := q; exact ⟨h1, v, h2, RD.chg hM mu d v h3⟩
      | own ds =>
        obtain ⟨b, ws, h1, h2, h3, h4⟩ := q
        exact ⟨b, ws, h1, h2, by rw [upd_ne (fun e => z (by rw [h1, e]))]; exact h3, RDs.chg hM mu ds ws h4⟩
      | bor ds =>
        obtain ⟨h1, v, h2, b, ws, rfl, h4, h5, h6⟩ := q
        obtain ⟨b', e1, e2⟩ := R.bor j ds hs
        have eb : b = b' := by
          rw [h2] at e1
          exact V.ref.inj (Option.some.inj (Option.some.inj e1))
        refine ⟨h1, _, h2, b, ws, rfl, ?_, h5, RDs.chg hM mu ds ws h6⟩
        rw [upd_ne (fun e => e2 (by rw [← eb, e]; exact h0))]
        exact h4
  len := by rw [hlen]; exact R.len
  pin := fun b u h => by rw [upd_ne (fun z => by rw [z, hpn] at h; cases h)]; exact R.pin b u h
  pinM := R.pinM
  pinO := R.pinO
  pinP := R.pinP
  pinp := R.pinp
  m0d := R.m0d
  oln := fun j b hb => by
    by_cases z : b = a
    · exact ⟨vs, by rw [z, upd_same]⟩
    · obtain ⟨ws, q⟩ := R.oln j b hb
      exact ⟨ws, by rw [upd_ne z]; exact q⟩
  bor := fun j ds hs => by
    rcases hρ j _ hs with ⟨_, _, z, _⟩ | ⟨_, hs⟩
    · cases z
    · exact R.bor j ds hs
/-- a slot's own list -/
theorem FR.own_at (R : FR c M p H ow σ ρ S) {ds : List D} (h : ρ[i]? = some (.own ds)) : ∃ a vs, σ[i]? = some (some (.ref a)) ∧ H a = some (.lst vs) ∧ a ∉ p ∧ RDs c.K c.mg M p H ds vs ∧
    ∀ ds' vs', RDs c.K c.mg M p H ds' vs' → FR c M p (upd H a (.lst vs')) ow σ (ρ.set i (.own ds')) S := by
  obtain ⟨a, vs, h1, h2, h3, h4⟩ := R.slots i _ h
  obtain ⟨z1, z2, z3⟩ := R.own i a h1
  refine ⟨a, vs, h2, h3, z2, h4, fun ds' vs' r => R.upd0 z1 z2 z3 (R.pinO i a h1) (by rw [h3]; trivial) (by rw [List.length_set]) fun j s hs => ?_⟩
  have hl : i < ρ.length := (List.getElem?_eq_some_iff.mp h).1
  by_cases e : j = i
  · subst e
    rw [List.getElem?_set_self hl] at hs
    cases hs
    exact .inl ⟨h1, ds', rfl, r, h2⟩
  · rw [List.getElem?_set_ne (Ne.symm e)] at hs
    exact .inr ⟨fun z => e (R.inj j i a z h1), hs⟩
/-- a list under way (no slot's) -/
theorem FR.tmp (R : FR c M p H ow σ ρ S) (hM : M a) (hp : a ∉ p) (h0 : c.H0 a = none) (hpn : c.pn a = none) (hn : ∀ j, ow j ≠ some a) (mu : Wx (H a)) {vs : List V} : FR c M p (upd H a (.lst vs)) ow σ ρ S :=
  R.upd0 hM hp h0 hpn mu rfl fun j s hs => .inr ⟨hn j, hs⟩

/-! ### what stays through a body -/
structure Stb (M : Addr → Prop) (p : List Addr) (H : Hp) (own : Addr → Prop) (M' : Addr → Prop) (p' : List Addr) (H' : Hp) : Prop where
  keep : ∀ a o, H a = some o → a ∉ p → ¬ own a → H' a = some o ∧ a ∉ p'
  mm : ∀ a o, H a = some o → a ∉ p → ¬ own a → M' a → M a
  phi : ∃ q, p' = p ++ q
  fz : ∀ a q u, H a = some (.frz q u) → ¬ own a → H' a = some (.frz q u)
abbrev owned (ow : Nat → Option Addr) (a : Addr) : Prop := ∃ i, ow i = some a
open Classical in
noncomputable def Fc.snap (c : Fc) (M : Addr → Prop) (p : List Addr) (H : Hp) (ow : Nat → Option Addr) : Fc := { c with pn := fun a => if owned ow a ∨ (a ∈ p ∧ ∀ q u, H a ≠ some (.frz q u)) then none else H a, pM := M, pp := p }
theorem snap_pn (h1 : ¬ owned ow a) (h2 : a ∉ p ∨ ∃ q u, H a = some (.frz q u)) : (c.snap M p H ow).pn a = H a := if_neg (fun z => z.elim h1 fun y => h2.elim (fun n => n y.1) fun ⟨q, u, e⟩ => y.2 q u e)
theorem snap_pn0 (h : owned ow a ∨ (a ∈ p ∧ ∀ q u, H a ≠ some (.frz q u))) : (c.snap M p H ow).pn a = none := if_pos h
theorem snap_some {o : HO} (h : (c.snap M p H ow).pn a = some o) : H a = some o ∧ ¬ owned ow a ∧ (a ∈ p → ∃ q u, o = .frz q u) := by
  by_cases z : owned ow a ∨ (a ∈ p ∧ ∀ q u, H a ≠ some (.frz q u))
  · rw [snap_pn0 z] at h; cases h
  · have z1 : ¬ owned ow a := fun q => z (.inl q)
    have z3 : a ∈ p → ∃ q u, H a = some (.frz q u) := fun y => Classical.byContradiction fun n => z (.inr ⟨y, fun q u e => n ⟨q, u, e⟩⟩)
    have h' : H a = some o := by
      by_cases y : a ∈ p
      · rw [snap_pn z1 (.inr (z3 y))] at h; exact h
      · rw [snap_pn z1 (.inl y)] at h; exact h
    refine ⟨h', z1, fun y => ?_⟩
    obtain ⟨q, u, e⟩ := z3 y
    rw [e] at h'
    cases h'
    exact ⟨q, u, rfl⟩
theorem FR.frzd (R : FR c M p H ow σ ρ S) {o : HO} (h : c.pn a = some o) : a ∉ p ∨ ∃ q u, H a = some (.frz q u) := by
  by_cases y : a ∈ p
  · obtain ⟨⟨q, u, rfl⟩, _⟩ := R.pinP a y o h
    exact .inr ⟨q, u, R.pin a _ h⟩
  · exact .inl y
theorem FR.snap (R : FR c M p H ow σ ρ S) : FR (c.snap M p H ow) M p H ow σ ρ S where
  ext := R.ext
  M0 := R.M0
  sto := R.sto
  dom := R.dom
  own := R.own
  inj := R.inj
  slots := R.slots
  len := R.len
  pin := fun a o h => (snap_some h).1
  pinM := fun a h m => m
  pinO := fun i a h => snap_pn0 (.inl ⟨i, h⟩)
  pinP := fun a h o e => ⟨(snap_some e).2.2 h, h⟩
  pinp := ⟨[], (List.append_nil p).symm⟩
  m0d := R.m0d
  oln := R.oln
  bor := R.bor
theorem FR.unsnap (R : FR c M p H ow σ ρ S) (R' : FR (c.snap M p H ow) M' p' H' ow' σ' ρ' S') : FR c M' p' H' ow' σ' ρ' S' where
  ext := R'.ext
  M0 := R'.M0
  sto := R'.sto
  dom := R'.dom
  own := R'.own
  inj := R'.inj
  slots := R'.slots
  len := R'.len
  pin := fun a o h => by
    have h1 : ¬ owned ow a := fun ⟨i, z⟩ => by rw [R.pinO i a z] at h; cases h
    have h2 := R.frzd h
    exact R'.pin a o (by rw [snap_pn h1 h2]; exact R.pin a o h)
  pinM := fun a h m => by
    have h1 : ¬ owned ow a := fun ⟨i, z⟩ => h (R.pinO i a z)
    refine R.pinM a h (R'.pinM a ?_ m)
    cases q : c.pn a with
    | none => exact absurd q h
    | some o => rw [snap_pn h1 (R.frzd q), R.pin a o q]; simp
  pinO := fun i a h => by
    cases q : c.pn a with
    | none => rfl
    | some o =>
      have h1 : ¬ owned ow a := fun ⟨i, z⟩ => by rw [R.pinO i a z] at q; cases q
      have := R'.pinO i a h
      rw [snap_pn h1 (R.frzd q), R.pin a o q] at this
      cases this
  pinP := fun a h o q => by
    have h1 : ¬ owned ow a := fun ⟨i, z⟩ => by rw [R.pinO i a z] at q; cases q
    have e : (c.snap M p H ow).pn a = some o := by rw [snap_pn h1 (R.frzd q), R.pin a o q]
    obtain ⟨fr, hp⟩ := R'.pinP a h o e
    exact ⟨fr, (R.pinP a hp o q).2⟩
  pinp := by
    obtain ⟨q, e⟩ := R'.pinp
    obtain ⟨r, e'⟩ := R.pinp
    have e : p' = p ++ q := e
    exact ⟨r ++ q, by rw [e, e', List.append_assoc]⟩
  m0d := R.m0d
  oln := R'.oln
  bor := R'.bor
theorem FR.stb (R' : FR (c.snap M p H ow) M' p' H' ow' σ' ρ' S') : Stb M p H (owned ow) M' p' H' where
  keep := fun a o h h1 h2 => by
    have e : (c.snap M p H ow).pn a = some o := by rw [snap_pn h2 (.inl h1)]; exact h
    exact ⟨R'.pin a o e, fun z => h1 (R'.pinP a z o e).2⟩
  mm := fun a o h h1 h2 m => R'.pinM a (by rw [snap_pn h2 (.inl h1), h]; simp) m
  phi := R'.pinp
  fz := fun a q u h h2 => R'.pin a _ (by rw [snap_pn h2 (.inr ⟨q, u, h⟩)]; exact h)
theorem Ext.stb (e : Ext M p H M' p' H') : Stb M p H (fun _ => False) M' p' H' where
  keep := fun a o h h1 _ => ⟨e.keep a o h h1, e.nin (by rw [h]; simp) h1⟩
  mm := fun a o h _ _ m => (e.mm a m).resolve_right (by rw [h]; simp)
  phi := let ⟨q, h, _⟩ := e.phi; ⟨q, h⟩
  fz := fun a q u h _ => e.fz a q u h
theorem Stb.mono {o1 o2 : Addr → Prop} (s : Stb M p H o1 M' p' H') (h : ∀ a, o1 a → o2 a) : Stb M p H o2 M' p' H' := ⟨fun a o e h1 h2 => s.keep a o e h1 fun z => h2 (h a z), fun a o e h1 h2 => s.mm a o e h1 fun z => h2 (h a z), s.phi, fun a q u e h2 => s.fz a q u e fun z => h2 (h a z)⟩
theorem Stb.get {o1 : Addr → Prop} (s : Stb M p H o1 M' p' H') {n : Nat} (h : p[n]? = some a) : p'[n]? = some a := by
  obtain ⟨q, rfl⟩ := s.phi
  rw [List.getElem?_append_left (List.getElem?_eq_some_iff.mp h).1]
  exact h
end
section
variable {K : PySem.W.Frag} {mg : Str → Option Value} {M M' : Addr → Prop} {p p' : List Addr} {H H' : Hp} {own : Addr → Prop}
/-- the heap at the start -/
structure Ab (M : Addr → Prop) (p : List Addr) (H : Hp) (own : Addr → Prop) : Prop where
  mu : Muts p H
  inM : ∀ a ∈ p, M a
  ow : ∀ a, own a → M a ∧ ∃ vs, H a = some (.lst vs)
theorem Ab.keep (A : Ab M p H own) (s : Stb M p H own M' p' H') {a : Addr} {o : HO} (h : H a = some o) (n : ¬ Mx (some o)) : H' a = some o := by
  refine (s.keep a o h (fun z => ?_) fun z => ?_).1
  · have := A.mu a z; rw [h] at this; exact n this
  · obtain ⟨vs, q⟩ := (A.ow a z).2
    rw [h] at q; cases q; exact n trivial
theorem Ab.sqT (A : Ab M p H own) (s : Stb M p H own M' p' H') {a : Addr} {vs : List V} (h : SqT K H a vs) : SqT K H' a vs := by
  rcases h with (h | ⟨o, h⟩) | h
  · exact .inl (.inl (A.keep s h fun z => z))
  · exact .inl (.inr ⟨o, A.keep s h fun z => z⟩)
  · exact .inr h
theorem Ab.tq (A : Ab M p H own) (s : Stb M p H own M' p' H') {z : Bool} {a : Addr} {vs : List V} (h : TQ z K H a vs) : TQ z K H' a vs := by
  cases z with
  | false => exact A.sqT s h
  | true =>
    rcases h with ⟨o, h, d⟩ | h
    · exact .inl ⟨o, A.keep s h fun z => z, d⟩
    · exact .inr h
theorem Ab.sqZ (A : Ab M p H own) (s : Stb M p H own M' p' H') {a : Addr} {vs : List V} (h : SqZ K H a vs) : SqZ K H' a vs := by
  rcases h with ⟨o, h⟩ | h
  · refine .inl ⟨o, s.fz a o _ h fun z => ?_⟩
    obtain ⟨vs, q⟩ := (A.ow a z).2
    rw [h] at q; cases q
  · exact .inr h
mutual
theorem RD.stb (A : Ab M p H own) (s : Stb M p H own M' p' H') : ∀ (d : D) (v : V), RD K mg M p H d v → RD K mg M' p' H' d v
  | .non, _, h => by unfold RD at h ⊢; exact h
  | .bl _, _, h => by unfold RD at h ⊢; exact h
  | .int _, _, h => by unfold RD at h ⊢; exact h
  | .str _, _, h => by unfold RD at h ⊢; exact h
  | .glo _, _, h => by unfold RD at h ⊢; exact h
  | .adr _, _, h => by unfold RD at h ⊢; exact h
  | .ref n, _, h => by
    unfold RD at h ⊢
    obtain ⟨a, h1, h2⟩ := h
    exact ⟨a, s.get h1, h2⟩
  | .tup z ds, v, h => by
    unfold RD at h ⊢
    obtain ⟨b, vs, h1, h2, h3⟩ := h
    exact ⟨b, vs, h1, A.tq s h2, RDs.stb A s ds vs h3⟩
  | .lst ds, v, h => by
    unfold RD at h ⊢
    obtain ⟨b, vs, h1, h2, h3, h4⟩ := h
    have n1 : b ∉ p := fun z => h3 (A.inM b z)
    have n2 : ¬ own b := fun z => h3 (A.ow b z).1
    exact ⟨b, vs, h1, (s.keep b _ h2 n1 n2).1, fun z => h3 (s.mm b _ h2 n1 n2 z), RDs.stb A s ds vs h4⟩
  | .frz ds, v, h => by
    unfold RD at h ⊢
    obtain ⟨b, vs, h1, h2, h3⟩ := h
    exact ⟨b, vs, h1, A.sqZ s h2, RDs.stb A s ds vs h3⟩
theorem RDs.stb (A : Ab M p H own) (s : Stb M p H own M' p' H') : ∀ (ds : List D) (vs : List V), RDs K mg M p H ds vs → RDs K mg M' p' H' ds vs
  | [], _, h => by unfold RDs at h ⊢; exact h
  | d :: ds, _, h => by
    unfold RDs at h ⊢
    obtain ⟨v, r, h1, h2, h3⟩ := h
    exact ⟨v, r, h1, RD.stb A s d v h2, RDs.stb A s ds r h3⟩
end
end
theorem FR.ab {c : Fc} {M : Addr → Prop} {p : List Addr} {H : Hp} {S : Sto} {ow : Nat → Option Addr} {σ : St} {ρ : Rho} (R : FR c M p H ow σ ρ S) : Ab M p H (owned ow) := ⟨R.sto.muts, R.sto.inM, fun a ⟨i, h⟩ => ⟨(R.own i a h).1, R.oln i a h⟩⟩
theorem SR.ab0 {K : PySem.W.Frag} {mg : Str → Option Value} {M : Addr → Prop} {p : List Addr} {H : Hp} {S : Sto} (R : SR K mg M p H S) : Ab M p H (fun _ => False) := ⟨R.muts, R.inM, fun a h => h.elim⟩
end QL

set_option Elab.async false
set_option linter.all false
set_option maxRecDepth 100000
/-! QI: what a loop or a comprehension walks -/
namespace QL
open PySem PySem.Spec L2
open PyProof.Rows hiding St

/-! ### a list or a tuple, as it comes -/
def iSeq (K : PySem.W.Frag) (tl : TE) : TI := fun σ H R => tl σ H fun x H1 => ∃ a, x = .ref a ∧ (((∃ xs, SqL K H1 a xs) ∧ R (Itl K a) H1) ∨ ((∃ xs, SqT K H1 a xs) ∧ R (Itt K a) H1))
theorem pi_seq {X : Cx} {tg l : Expr} {tl : TE} (hl : PE X l tl) : PI X tg l (iSeq X.K tl) := by
  refine ⟨fun pins s σ H R I h => thn (hl.run pins s σ H _ I h) fun v s1 hh => ?_⟩
  obtain ⟨x, H1, J, r, a, rfl, q⟩ := hh
  cases r
  have fp : ∀ b ∈ [s1.heap.objs.size], FpOk X pins H1 b := fun b hb => by
    rw [List.mem_singleton.mp hb]
    exact J.fpOk (Nat.le_refl _) (J.hok.fresh (Nat.le_refl _))
  rcases q with ⟨⟨xs, hq⟩, q⟩ | ⟨⟨xs, hq⟩, q⟩
  · obtain ⟨its, _, pl, _⟩ := J.list hq
    exact wpAny_pyIter_list pl.isList ⟨_, _, _, _, H1, rfl, J.kept (t' := s1.toks) (fun b o z => Heap.get?_push_of_some _ z), turn_list a _, ⟨_, Heap.get?_push_size _ rfl, rfl, rfl⟩, fp, q⟩
  · obtain ⟨its, _, pl, _⟩ := J.tuple hq
    exact wpAny_pyIter_tuple (show s1.heap.IsTuple a its.toArray from pl) ⟨_, _, _, _, H1, rfl, J.kept (t' := s1.toks) (fun b o z => Heap.get?_push_of_some _ z), turn_tuple a _, ⟨_, Heap.get?_push_size _ rfl, rfl, rfl⟩, fp, q⟩

/-! ### enumerate over a tuple -/
def IteT (K : PySem.W.Frag) (a : Addr) : It :=
  ⟨fun i H => ∃ (xs : List V) (x : V), SqT K H a xs ∧ xs[i]? = some x, fun i H v H' => ∃ T x, v = .ref T ∧ H T = none ∧ H' = upd H T (.tup [.int (i : Nat), x]) ∧ ∀ xs, SqT K H a xs → xs[i]? = some x, fun i H => ∃ xs : List V, SqT K H a xs ∧ xs.length = i⟩
theorem turn_enumT {P : Program} {w : World} {K : PySem.W.Frag} {elts : List Expr} {kk : Nat} {tpos : Pos} (a e it : Addr) (lt : a < it) (lt2 : it < e) :
    Turn P w K (.Tuple elts kk tpos) (IteT K a) [e, it] e (fun i h => (∃ old, IsEnum h e it ((i : Nat) : Int) old) ∧ h.IsTupleIter it a i) where
  mem := List.mem_cons_self
  obj := fun i h st b hb => by
    obtain ⟨⟨old, he⟩, o, ho, hc, hd⟩ := st
    rcases List.mem_cons.mp hb with z | hb
    · rw [z]; exact ⟨_, he, fun v q => nomatch q⟩
    · rw [List.mem_singleton.mp hb]; exact ⟨o, ho, fun v q => by rw [hd] at q; cases q⟩
  keep := fun i h h' st k => let ⟨⟨old, he⟩, hi⟩ := st; ⟨⟨old, k e List.mem_cons_self _ he⟩, hi.at fun o q => k it (List.mem_cons_of_mem _ (List.mem_singleton.mpr rfl)) o q⟩
  item := by
    intro X hP hw hK hc i pins s σ H E J hf st hg
    subst hP hw hK
    obtain ⟨⟨old, he⟩, hit⟩ := st
    obtain ⟨xs, x, hq, hx⟩ := hg
    obtain ⟨its, rv, pl, _⟩ := J.tuple hq
    obtain ⟨u, hu, ru⟩ := rv.get hx
    have hi : i < its.toArray.size := by simpa using (List.getElem?_eq_some_iff.mp hu).1
    have hel : e < s.heap.objs.size := Heap.lt_size he
    have D := Draws.tuple (prog := X.prog) (w := X.w) (A := X.A.in1) (J.ok.hd hc) it a (Nat.ne_of_lt lt) its.toArray
    refine wpAny_pyNext_enum_itemD D he ⟨hit, pl⟩ hi (Nat.ne_of_gt lt2) (by
      intro z
      rcases List.mem_cons.mp z with z | z
      · exact Nat.ne_of_gt lt2 z
      · exact Nat.ne_of_gt (Nat.lt_trans lt lt2) (List.mem_singleton.mp z)) fun y h' tk hy ho hst hT hsz hk => ?_
    have ey : y = u := by
      rw [List.getElem?_toArray, hu] at hy
      exact (Option.some.inj hy).symm
    subst ey
    refine ⟨_, rfl, wpAny_letOwnedTupleGo_enum (s := { s with heap := h', toks := tk + 1 }) ho fun h'' he' sb => ?_⟩
    have hT2 := (sb.2 _ (Nat.ne_of_gt hel)).trans hT
    have new : ObjOk X.prog X.w (upd H s.heap.objs.size (.tup [.int (i : Nat), x])) h'' s.heap.objs.size (.tup [.int (i : Nat), x]) :=
      ⟨mill (by decide : 2 ≤ 1000000), [.int i tk, y], .cons ⟨_, rfl⟩ (.cons ru .nil), _, hT2, rfl, _, rfl⟩
    have J1 : Inv X pins σ (upd H s.heap.objs.size (.tup [.int (i : Nat), x])) { s with heap := h'', toks := tk + 1 } :=
      J.turnedNew (ch := [e, it]) (fun b ob hb q => (sb.2 b (fun z => hb (by simp [z]))).trans (hk b ob (fun z => hb (by simp [z])) (fun z => hb (by simp [z])) q)) hf (Nat.le_refl _) new
    refine ⟨.ref s.heap.objs.size, _, J1, rfl, ⟨_, x, rfl, J.hok.fresh (Nat.le_refl _), rfl, fun ys hy => by rw [J.tuple_inj hy hq]; exact hx⟩, ⟨⟨y, ?_⟩, hst.1.at fun o q => (sb.2 it (Nat.ne_of_lt lt2)).trans q⟩, fun b hb => ?_⟩
    · rw [show ((i + 1 : Nat) : Int) = (i : Int) + 1 by omega]; exact he'
    · have hb' : b ≤ e := by
        rcases List.mem_cons.mp hb with z | z
        · exact Nat.le_of_eq z
        · rw [List.mem_singleton.mp z]; exact Nat.le_of_lt lt2
      rw [upd_ne (Nat.ne_of_lt (Nat.lt_of_le_of_lt hb' hel))]
      exact (hf b hb).1
  done := by
    intro X hP hw hK hc i pins s σ H E J hf st hg
    subst hP hw hK
    obtain ⟨⟨old, he⟩, hit⟩ := st
    obtain ⟨xs, hq, hx⟩ := hg
    obtain ⟨its, rv, pl, _⟩ := J.tuple hq
    have ei : i = its.toArray.size := by rw [← hx, rv.length]; simp
    subst ei
    obtain ⟨f0, f1, f2, f3, f4, f5⟩ := hf it (List.mem_cons_of_mem _ (List.mem_singleton.mpr rfl))
    have D := Draws.tuple (prog := X.prog) (w := X.w) (A := X.A.in1) (J.ok.hd hc) it a (Nat.ne_of_lt lt) its.toArray
    exact wpAny_pyNext_enum_endD D he ⟨hit, pl⟩ fun h' eb => ⟨rfl, J.turned (t' := s.toks) (fun b o hb q => eb b o hb q) f0 f1 f3 f4 f5⟩
  self := fun A i s Q E st h => let ⟨⟨_, he⟩, _⟩ := st; wpAny_pyIter_enum he h
theorem callNewE (A : Around) (v : Value) : ∀ {prog : Program} {w : World} {E : Value → Shared → Prop} {s : Shared} {o : Obj} {H : Heap → Prop} {Q : Value → Shared → Prop} (B : Begins v o H) (h1 : H s.heap)
    (hm : Meets (Builtin.«enumerate.__new__» ⟨[.type "enumerate", v], []⟩) (fun _ R s => H s.heap ∧
      R (.ok (.ret (.ref (s.heap.push o).objs.size))) { s with heap := (s.heap.push o).push { cls := .type "enumerate", data := .fields #[.none, .bool false, .ref s.heap.objs.size, rawInt 0, .none, .none] } }))
    (h : ∀ h', IsEnum h' (s.heap.objs.size + 1) s.heap.objs.size 0 .none → h'.get? s.heap.objs.size = some o → (∀ b o, s.heap.get? b = some o → h'.get? b = some o) → Q (.ref (s.heap.objs.size + 1)) { s with heap := h' }),
    wpAny (model prog w) A (call (.type "enumerate") [v]) Q E s := by
  intro prog w E s o H Q B h1 hm h
  refine callType_new F.called_enumerate (by decide) (F.typeCall_enumerate_1 _) (F.newCall_enumerate_1 _) (fun obj => F.args_object_init_2 obj _) F.entry_enumerate_new hm ⟨h1, ?_⟩
  have hz : (s.heap.push o).objs.size = s.heap.objs.size + 1 := Heap.size_push ..
  show _ ∧ _
  rw [hz]
  have he : IsEnum ((s.heap.push o).push { cls := .type "enumerate", data := .fields #[.none, .bool false, .ref s.heap.objs.size, rawInt 0, .none, .none] }) (s.heap.objs.size + 1) s.heap.objs.size 0 .none := by
    have := Heap.get?_push_size (s.heap.push o) (o := { cls := .type "enumerate", data := .fields #[.none, .bool false, .ref s.heap.objs.size, rawInt 0, .none, .none] }) rfl
    rw [hz] at this; exact this
  exact ⟨⟨_, he, rfl⟩, h _ he (Heap.get?_push_of_some _ (Heap.get?_push_size _ B.free)) fun b o x => Heap.get?_push_of_some _ (Heap.get?_push_of_some _ x)⟩
set_option maxHeartbeats 1000000 in
theorem meets_enumB {v : Value} {o : Obj} {H : Heap → Prop} (B : Begins v o H) :
    Meets (Builtin.«enumerate.__new__» ⟨[.type "enumerate", v], []⟩) (fun _ R s => H s.heap ∧
      R (.ok (.ret (.ref (s.heap.push o).objs.size))) { s with heap := (s.heap.push o).push { cls := .type "enumerate", data := .fields #[.none, .bool false, .ref s.heap.objs.size, rawInt 0, .none, .none] } }) :=
  .of_wp fun prog w A R s h => by
    obtain ⟨hp, g, d, tk, os⟩ := s
    obtain ⟨h1, h⟩ := h
    have hsub := sub_enumerate
    have q1 : ∀ {A' : Around} {E : Value → Shared → Prop} {Q : Value → Shared → Prop}, Q (.ref hp.objs.size) ⟨hp.push o, g, d, tk, os⟩ → wpAny (model prog w) A' (pyIter v) Q E ⟨hp, g, d, tk, os⟩ :=
      fun q => B.iter prog w _ _ ⟨hp, g, d, tk, os⟩ _ h1 q
    wp_walk using q1
    refine wpAny_stack_any fun st => wpAny_pure ?_
    split
    · rename_i c _ _ _ _ _
      cases (c == Value.type "enumerate") <;> (wp_walk using q1; exact ⟨_, rfl, h⟩)
    · wp_walk using q1
      exact ⟨_, rfl, h⟩
def iEnumS (K : PySem.W.Frag) (te : TE) : TI := fun σ H R => te σ H fun x H1 => ∃ a xs, x = .ref a ∧ ((SqL K H1 a xs ∧ R (Ite K a) H1) ∨ (SqT K H1 a xs ∧ R (IteT K a) H1))
theorem pi_enumS {X : Cx} {e : Expr} {te : TE} {p pos tpos : Pos} {elts : List Expr} {kk : Nat} (hg : Gl X "enumerate") (hm : X.mg "enumerate" = none) (he : PE X e te) (hs : starEach [e] X.env = (false, eval e X.env) :: starEach [] X.env := by rfl) :
    PI X (.Tuple elts kk tpos) (.Call (.Name "enumerate" p) [e] [] pos) (iEnumS X.K te) := by
  refine ⟨fun pins s σ H R I h => Call_ (ld_blt I hg hm boot_enumerate (PyProof.Rows.callWith_type1 (args_cons (thn (he.run pins s σ H _ I h) fun u s1 hh => args_nil ?_) hs) hs))⟩
  obtain ⟨x, H1, J, r, a, xs, rfl, q⟩ := hh
  cases r
  have fp : ∀ b ∈ [s1.heap.objs.size + 1, s1.heap.objs.size], FpOk X pins H1 b := fun b hb => by
    have hle : s1.heap.objs.size ≤ b := by
      rcases List.mem_cons.mp hb with z | z
      · rw [z]; exact Nat.le_add_right _ _
      · rw [List.mem_singleton.mp z]; exact Nat.le_refl _
    exact J.fpOk hle (J.hok.fresh hle)
  rcases q with ⟨hq, q⟩ | ⟨hq, q⟩
  · obtain ⟨its, _, pl, _⟩ := J.list hq
    exact call_enumerate_list pl.isList fun h' he hit hsz hk => wpAny_pyIter_enum he ⟨_, _, _, _, H1, rfl, J.kept (t' := s1.toks) hk, turn_enum a (s1.heap.objs.size + 1) s1.heap.objs.size, ⟨⟨.none, he⟩, hit, Nat.succ_ne_self _⟩, fp, q⟩
  · obtain ⟨its, _, pl, _⟩ := J.tuple hq
    have B := begins_tuple a its.toArray
    exact callNewE _ _ B (show s1.heap.IsTuple a its.toArray from pl) (meets_enumB B) fun h' he hit hk => wpAny_pyIter_enum he ⟨_, _, _, _, H1, rfl, J.kept (t' := s1.toks) hk, turn_enumT a (s1.heap.objs.size + 1) s1.heap.objs.size pl.lt (Nat.lt_succ_self _), ⟨⟨.none, he⟩, ⟨_, hit, rfl, rfl⟩⟩, fp, q⟩
end QL

set_option Elab.async false
set_option linter.all false
set_option maxRecDepth 100000
/-! QJ: for, comprehensions -/
namespace QL
open PySem PySem.Spec L2
open PyProof.Rows hiding St

/-! ### walks by contents -/
/-- the iterator J yields ds, whatever the body changes of its own -/
def WalksD (K : PySem.W.Frag) (mg : Str → Option Value) (J : It) (M : Addr → Prop) (p : List Addr) (H : Hp) (own : Addr → Prop) (ds : List D) : Prop :=
  ∀ M' p' H', Stb M p H own M' p' H' → Muts p' H' → (∀ a ∈ p', M' a) → (∀ a, M' a → H' a ≠ none) → ∀ i, match ds[i]? with
    | none => i = ds.length → J.stop i H'
    | some d => J.go i H' ∧ ∀ x H'', J.yld i H' x H'' → Ext M' p' H' M' p' H'' ∧ (∀ a, H' a ≠ none → H'' a = H' a) ∧ RD K mg M' p' H'' d x
/-- a list that stays -/
def StL (K : PySem.W.Frag) (H : Hp) (p : List Addr) (own : Addr → Prop) (a : Addr) (vs : List V) : Prop := (H a = some (.lst vs) ∧ a ∉ p ∧ ¬ own a) ∨ SqZ K H a vs
/-- a list or a tuple that stays -/
def SrcAt (K : PySem.W.Frag) (mg : Str → Option Value) (M : Addr → Prop) (p : List Addr) (H : Hp) (own : Addr → Prop) (ds : List D) (x : V) : Prop :=
  ∃ a vs, x = .ref a ∧ RDs K mg M p H ds vs ∧ (StL K H p own a vs ∨ SqT K H a vs)
section
variable {K : PySem.W.Frag} {mg : Str → Option Value} {M M' : Addr → Prop} {p p' : List Addr} {H H' : Hp} {own : Addr → Prop} {ds : List D} {vs : List V} {a : Addr}
theorem StL.stb (A : Ab M p H own) (s : Stb M p H own M' p' H') (h : StL K H p own a vs) : SqL K H' a vs := by
  rcases h with ⟨h, h1, h2⟩ | h
  · exact SqL.of (s.keep a _ h h1 h2).1
  · exact (A.sqZ s h).sq
theorem StL.now (h : StL K H p own a vs) : SqL K H a vs := by
  rcases h with ⟨h, _, _⟩ | h
  · exact SqL.of h
  · exact h.sq
theorem RDs.none (r : RDs K mg M p H ds vs) {i : Nat} (e : i = ds.length) : vs.length = i := by rw [r.length, e]
theorem walks_lst (A : Ab M p H own) (hq : StL K H p own a vs) (r : RDs K mg M p H ds vs) : WalksD K mg (Itl K a) M p H own ds := by
  intro M' p' H' s hm hM hd i
  have q := hq.stb A s
  cases e : ds[i]? with
  | none => exact fun ei => ⟨vs, q, Nat.le_of_eq (r.none ei)⟩
  | some d =>
    obtain ⟨v, hv, rv⟩ := r.get e
    refine ⟨⟨vs, v, q, hv⟩, fun x H'' y => ?_⟩
    obtain ⟨rfl, y⟩ := y
    have := y vs q
    rw [hv] at this; cases this
    exact ⟨.refl, fun _ _ => rfl, RD.stb A s d v rv⟩
theorem walks_tup (A : Ab M p H own) (hq : SqT K H a vs) (r : RDs K mg M p H ds vs) : WalksD K mg (Itt K a) M p H own ds := by
  intro M' p' H' s hm hM hd i
  have q := A.sqT s hq
  cases e : ds[i]? with
  | none => exact fun ei => ⟨vs, q, Nat.le_of_eq (r.none ei)⟩
  | some d =>
    obtain ⟨v, hv, rv⟩ := r.get e
    refine ⟨⟨vs, v, q, hv⟩, fun x H'' y => ?_⟩
    obtain ⟨rfl, y⟩ := y
    have := y vs q
    rw [hv] at this; cases this
    exact ⟨.refl, fun _ _ => rfl, RD.stb A s d v rv⟩
/-- the items with their numbers -/
def enD : Nat → List D → List D
  | _, [] => []
  | n, d :: ds => .tup false [.int (n : Nat), d] :: enD (n + 1) ds
theorem enD_length : ∀ (n : Nat) (ds : List D), (enD n ds).length = ds.length
  | _, [] => rfl
  | n, d :: ds => by unfold enD; rw [List.length_cons, List.length_cons, enD_length]
theorem enD_get : ∀ (n : Nat) (ds : List D) (i : Nat), (enD n ds)[i]? = ds[i]?.map fun d => .tup false [.int ((n + i : Nat) : Int), d]
  | _, [], _ => rfl
  | n, d :: ds, 0 => rfl
  | n, d :: ds, i + 1 => by
    unfold enD
    rw [List.getElem?_cons_succ, List.getElem?_cons_succ, enD_get (n + 1) ds i, show n + 1 + i = n + (i + 1) by omega]
theorem pair_new (hm : Muts p' H') (hM : ∀ a ∈ p', M' a) (hd : ∀ a, M' a → H' a ≠ none) {T : Addr} (hT : H' T = none) {i : Int} {d : D} {v : V} (r : RD K mg M' p' H' d v) :
    Ext M' p' H' M' p' (upd H' T (.tup [.int i, v])) ∧ (∀ a, H' a ≠ none → upd H' T (.tup [.int i, v]) a = H' a) ∧ RD K mg M' p' (upd H' T (.tup [.int i, v])) (.tup false [.int i, d]) (.ref T) := by
  refine ⟨Ext.new hT, fun b hb => upd_ne fun z => hb (by rw [z]; exact hT), ?_⟩
  unfold RD
  exact ⟨T, _, rfl, SqT.of upd_same, RDs.cons (by unfold RD; rfl) (RDs.cons (RD.ext (Ext.new hT) hm hM d v r) RDs.nil)⟩
theorem walks_enL (A : Ab M p H own) (hq : StL K H p own a vs) (r : RDs K mg M p H ds vs) : WalksD K mg (Ite K a) M p H own (enD 0 ds) := by
  intro M' p' H' s hm hM hd i
  have q := hq.stb A s
  rw [enD_get, enD_length, Nat.zero_add]
  cases e : ds[i]? with
  | none => exact fun ei => ⟨vs, q, Nat.le_of_eq (r.none ei)⟩
  | some d =>
    obtain ⟨v, hv, rv⟩ := r.get e
    refine ⟨⟨vs, v, q, hv⟩, fun x H'' y => ?_⟩
    obtain ⟨T, x, rfl, hT, rfl, y⟩ := y
    have := y vs q
    rw [hv] at this; cases this
    exact pair_new hm hM hd hT (RD.stb A s d v rv)
theorem walks_enT (A : Ab M p H own) (hq : SqT K H a vs) (r : RDs K mg M p H ds vs) : WalksD K mg (IteT K a) M p H own (enD 0 ds) := by
  intro M' p' H' s hm hM hd i
  have q := A.sqT s hq
  rw [enD_get, enD_length, Nat.zero_add]
  cases e : ds[i]? with
  | none => exact fun ei => ⟨vs, q, r.none ei⟩
  | some d =>
    obtain ⟨v, hv, rv⟩ := r.get e
    refine ⟨⟨vs, v, q, hv⟩, fun x H'' y => ?_⟩
    obtain ⟨T, x, rfl, hT, rfl, y⟩ := y
    have := y vs q
    rw [hv] at this; cases this
    exact pair_new hm hM hd hT (RD.stb A s d v rv)
/-- lo, lo + 1, .. -/
def rgD (lo : Int) (n : Nat) : List D := (List.range n).map fun (i : Nat) => .int (lo + i)
theorem rgD_length (lo : Int) (n : Nat) : (rgD lo n).length = n := by unfold rgD; simp
theorem rgD_get (lo : Int) (n i : Nat) : (rgD lo n)[i]? = if i < n then some (.int (lo + i)) else none := by
  unfold rgD
  rw [List.getElem?_map]
  by_cases h : i < n
  · rw [List.getElem?_range h, if_pos h]; rfl
  · rw [List.getElem?_eq_none (by simpa using h), if_neg h]; rfl
theorem walks_rg {lo : Int} {n : Nat} : WalksD K mg (Itr lo n) M p H own (rgD lo n) := by
  intro M' p' H' s hm hM hd i
  rw [rgD_get, rgD_length]
  by_cases h : i < n
  · rw [if_pos h]
    refine ⟨h, fun x H'' y => ?_⟩
    obtain ⟨rfl, rfl⟩ := y
    exact ⟨.refl, fun _ _ => rfl, by unfold RD; rfl⟩
  · rw [if_neg h]
    exact fun e => Nat.le_of_not_lt h
end

/-! ### readings of what is walked: b true: by a loop, false: by a comprehension -/
abbrev ownP (b : Bool) (ow : Nat → Option Addr) (a : Addr) : Prop := b = true ∧ owned ow a
def RI (b : Bool) (c : Fc) (M : Addr → Prop) (p : List Addr) (H : Hp) (ow : Nat → Option Addr) (σ : St) (ρ : Rho) (r : ARes) (R : It → Hp → Prop) : Prop :=
  match r with
  | .ok ds S' => ∀ J M' p' H', Ext M p H M' p' H' → (∀ a, M a → M' a) → FR c M' p' H' ow σ ρ S' → WalksD c.K c.mg J M' p' H' (ownP b ow) ds → R J H'
  | .err n fs S' => ∀ C d M' p' H', c.mg n = some (.ref C) → Ext M p H M' p' H' → (∀ a, M a → M' a) → FR c M' p' H' ow σ ρ S' → ErrAt c.K c.mg M' p' H' d fs → c.W (.ref C) d σ H'
  | .stuck => False
def TIx (b : Bool) (c : Fc) (f : Ax) : TI := fun σ H R => ∃ M p ow ρ S, FR c M p H ow σ ρ S ∧ RI b c M p H ow σ ρ (f ρ S) R
def RSc (b : Bool) (c : Fc) (M : Addr → Prop) (p : List Addr) (H : Hp) (ow : Nat → Option Addr) (σ : St) (ρ : Rho) (r : ARes) (Q : VK) : Prop :=
  match r with
  | .ok ds S' => ∀ x M' p' H', Ext M p H M' p' H' → (∀ a, M a → M' a) → FR c M' p' H' ow σ ρ S' → SrcAt c.K c.mg M' p' H' (ownP b ow) ds x → Q x H'
  | .err n fs S' => ∀ C d M' p' H', c.mg n = some (.ref C) → Ext M p H M' p' H' → (∀ a, M a → M' a) → FR c M' p' H' ow σ ρ S' → ErrAt c.K c.mg M' p' H' d fs → c.W (.ref C) d σ H'
  | .stuck => False
def TSc (b : Bool) (c : Fc) (f : Ax) : TE := fun σ H Q => ∃ M p ow ρ S, FR c M p H ow σ ρ S ∧ RSc b c M p H ow σ ρ (f ρ S) Q
/-- the items of a thing -/
def D.items : D → Option (List D)
  | .tup _ ds => some ds
  | .lst ds => some ds
  | .frz ds => some ds
  | _ => none
def aOf (o : Option (List D)) (S : Sto) : ARes := match o with
  | some ds => .ok ds S
  | none => .stuck
def fItems (f : Fx) : Ax := fun ρ S => match f ρ S with
  | .ok d S => aOf d.items S
  | .err n fs S => .err n fs S
  | .stuck => .stuck
def fSlot (i : Nat) : Ax := fun ρ S => match ρ[i]? with
  | some (.val d) => aOf d.items S
  | some (.bor ds) => .ok ds S
  | _ => .stuck
section
variable {X : Cx} {W : WB} {c : Fc} {b : Bool} {e tg iter : Expr} {f : Fx} {fi : Ax} {x : Str} {pos p : Pos} {i : Nat}
theorem FR.abP {M : Addr → Prop} {p : List Addr} {H : Hp} {ow : Nat → Option Addr} {σ : St} {ρ : Rho} {S : Sto} (R : FR c M p H ow σ ρ S) : Ab M p H (ownP b ow) := ⟨R.ab.mu, R.ab.inM, fun a h => R.ab.ow a h.2⟩
theorem src_rd {K : PySem.W.Frag} {mg : Str → Option Value} {M : Addr → Prop} {p : List Addr} {H : Hp} {own : Addr → Prop} {d : D} {v : V} {ds : List D} (A : Ab M p H own) (h : RD K mg M p H d v) (e : d.items = some ds) : SrcAt K mg M p H own ds v := by
  cases d with
  | tup z xs =>
    cases e
    unfold RD at h
    obtain ⟨a, vs, rfl, h2, h3⟩ := h
    exact ⟨a, vs, rfl, h3, .inr h2.sq⟩
  | lst xs =>
    cases e
    unfold RD at h
    obtain ⟨a, vs, rfl, h2, h3, h4⟩ := h
    exact ⟨a, vs, rfl, h4, .inl (.inl ⟨h2, fun z => h3 (A.inM a z), fun z => h3 (A.ow a z).1⟩)⟩
  | frz xs =>
    cases e
    unfold RD at h
    obtain ⟨a, vs, rfl, h2, h3⟩ := h
    exact ⟨a, vs, rfl, h3, .inl (.inr h2)⟩
  | _ => cases e
theorem src_tv {K : PySem.W.Frag} {mg : Str → Option Value} {M : Addr → Prop} {p : List Addr} {H : Hp} {own : Addr → Prop} {d : D} {v : V} {ds : List D} (n : ∀ a, ¬ own a) (h : TV K mg M p H d v) (e : d.items = some ds) : SrcAt K mg M p H own ds v := by
  cases d with
  | tup z xs =>
    cases e
    obtain ⟨a, vs, rfl, h2, h3⟩ := h
    exact ⟨a, vs, rfl, h3, .inr h2.sq⟩
  | lst xs =>
    cases e
    obtain ⟨a, vs, rfl, h2, h3, h4⟩ := h
    exact ⟨a, vs, rfl, h4, .inl (.inl ⟨h2, h3, n a⟩)⟩
  | frz xs =>
    cases e
    obtain ⟨a, vs, rfl, h2, h3⟩ := h
    exact ⟨a, vs, rfl, h3, .inl (.inr h2)⟩
  | _ => cases e
theorem srcR (h : PE X e (TX .r c f)) : PE X e (TSc b c (fItems f)) := peW h fun σ H Q ⟨M, p, ow, ρ, S, R, h⟩ => ⟨M, p, ow, ρ, S, R, by
  unfold fItems at h
  cases z : f ρ S with
  | stuck => rw [z] at h; exact h
  | err n fs S' => rw [z] at h; exact h
  | ok d S' =>
    rw [z] at h
    cases y : d.items with
    | none => simp only [y] at h; exact h.elim
    | some ds => simp only [y] at h; exact fun v M' p' H' e m R' t => h v M' p' H' e m R' (src_rd R'.abP t y)⟩
theorem srcT (h : PE X e (TX .t c f)) : PE X e (TSc false c (fItems f)) := peW h fun σ H Q ⟨M, p, ow, ρ, S, R, h⟩ => ⟨M, p, ow, ρ, S, R, by
  unfold fItems at h
  cases z : f ρ S with
  | stuck => rw [z] at h; exact h
  | err n fs S' => rw [z] at h; exact h
  | ok d S' =>
    rw [z] at h
    cases y : d.items with
    | none => simp only [y] at h; exact h.elim
    | some ds => simp only [y] at h; exact fun v M' p' H' e m R' t => h v M' p' H' e m R' (src_tv (fun a q => nomatch q.1) t y)⟩
theorem srcV (i : Nat) (hN : X.N[i]? = some x := by rfl) (hv : Vis X.env.scope x := by first | exact Or.inl rfl | exact Or.inr (Or.inl rfl) | exact Or.inr (Or.inr rfl)) (hd : (x == ("__debug__" : Str)) = false := by decide)
    (hcd : (x == ("__classdict__" : Str)) = false := by decide) : PE X (.Name x pos) (TSc true c (fSlot i)) := peW (pe_var hN hv hd hcd) fun σ H Q ⟨M, p, ow, ρ, S, R, h⟩ => by
  unfold fSlot at h
  cases e : ρ[i]? with
  | none => rw [e] at h; exact h.elim
  | some s =>
    rw [e] at h
    have q := R.slots i s e
    cases s with
    | emp => exact h.elim
    | own ds => exact h.elim
    | val d =>
      obtain ⟨_, v, h1, h2⟩ := q
      cases y : d.items with
      | none => simp only [y] at h; exact h.elim
      | some ds => simp only [y] at h; exact ⟨v, h1, h v M p H .refl (fun _ m => m) R (src_rd R.abP h2 y)⟩
    | bor ds =>
      obtain ⟨_, v, h1, a, vs, rfl, h2, h3, h4⟩ := q
      obtain ⟨a', e1, e2⟩ := R.bor i ds e
      have ea : a = a' := by
        rw [h1] at e1
        exact V.ref.inj (Option.some.inj (Option.some.inj e1))
      exact ⟨.ref a, h1, h _ M p H .refl (fun _ m => m) R ⟨a, vs, rfl, h4, .inl (.inl ⟨h2, h3, fun ⟨_, j, z⟩ => e2 (by rw [← ea]; exact (R.own j a z).2.2)⟩)⟩⟩
theorem piW {wi wi' : TI} (h : PI X tg e wi) (w : ∀ σ H R, wi' σ H R → wi σ H R) : PI X tg e wi' := ⟨fun pins s σ H R J q => h.run pins s σ H R J (w σ H R q)⟩
theorem qiSeq (hK : c.K = X.K) (h : PE X e (TSc b c fi)) : PI X tg e (TIx b c fi) := piW (pi_seq h) fun σ H R ⟨M, p, ow, ρ, S, F, h⟩ => by
  refine ⟨M, p, ow, ρ, S, F, ?_⟩
  cases z : fi ρ S with
  | stuck => rw [z] at h; exact h
  | err n fs S' => rw [z] at h; exact h
  | ok ds S' =>
    rw [z] at h
    rintro x M' p' H' e m F' ⟨a, vs, rfl, r, q⟩
    refine ⟨a, rfl, ?_⟩
    rw [← hK]
    rcases q with q | q
    · exact .inl ⟨⟨vs, q.now⟩, h _ M' p' H' e m F' (walks_lst F'.abP q r)⟩
    · exact .inr ⟨⟨vs, q⟩, h _ M' p' H' e m F' (walks_tup F'.abP q r)⟩
def fEnum (f : Ax) : Ax := fun ρ S => match f ρ S with
  | .ok ds S => .ok (enD 0 ds) S
  | .err n fs S => .err n fs S
  | .stuck => .stuck
theorem qiEnum (hK : c.K = X.K) {q : Pos} {tpos : Pos} {elts : List Expr} {kk : Nat} (h : PE X e (TSc b c fi)) (hm : X.mg "enumerate" = none) (hg : Gl X "enumerate" := by rfl) (hs : starEach [e] X.env = (false, eval e X.env) :: starEach [] X.env := by rfl) :
    PI X (.Tuple elts kk tpos) (.Call (.Name "enumerate" q) [e] [] pos) (TIx b c (fEnum fi)) := piW (pi_enumS hg hm h hs) fun σ H R ⟨M, p, ow, ρ, S, F, h⟩ => by
  refine ⟨M, p, ow, ρ, S, F, ?_⟩
  unfold fEnum at h
  cases z : fi ρ S with
  | stuck => rw [z] at h; exact h
  | err n fs S' => rw [z] at h; exact h
  | ok ds S' =>
    rw [z] at h
    rintro x M' p' H' e m F' ⟨a, vs, rfl, r, q⟩
    refine ⟨a, vs, rfl, ?_⟩
    rw [← hK]
    rcases q with q | q
    · exact .inl ⟨q.now, h _ M' p' H' e m F' (walks_enL F'.abP q r)⟩
    · exact .inr ⟨q, h _ M' p' H' e m F' (walks_enT F'.abP q r)⟩
def rg1 : List D → Option (List D)
  | [.int j] => if -(2 ^ 62) ≤ j ∧ j < 2 ^ 62 then some (rgD 0 j.toNat) else none
  | _ => none
def rg2 : List D → Option (List D)
  | [.int i, .int j] => if -(2 ^ 62) ≤ i ∧ i < 2 ^ 62 ∧ -(2 ^ 62) ≤ j ∧ j < 2 ^ 62 then some (rgD i (j - i).toNat) else none
  | _ => none
theorem rg1_some {ds xs : List D} (h : rg1 ds = some xs) : ∃ j, ds = [.int j] ∧ -(2 ^ 62) ≤ j ∧ j < 2 ^ 62 ∧ xs = rgD 0 j.toNat := by
  unfold rg1 at h
  split at h
  · split at h
    · rename_i y
      exact ⟨_, rfl, y.1, y.2, (Option.some.inj h).symm⟩
    · cases h
  · cases h
theorem rg2_some {ds xs : List D} (h : rg2 ds = some xs) : ∃ i j, ds = [.int i, .int j] ∧ (-(2 ^ 62) ≤ i ∧ i < 2 ^ 62 ∧ -(2 ^ 62) ≤ j ∧ j < 2 ^ 62) ∧ xs = rgD i (j - i).toNat := by
  unfold rg2 at h
  split at h
  · split at h
    · rename_i y
      exact ⟨_, _, rfl, y, (Option.some.inj h).symm⟩
    · cases h
  · cases h
def fRange1 (f : Ax) : Ax := fun ρ S => match f ρ S with
  | .ok ds S => aOf (rg1 ds) S
  | .err n fs S => .err n fs S
  | .stuck => .stuck
def fRange2 (f : Ax) : Ax := fun ρ S => match f ρ S with
  | .ok ds S => aOf (rg2 ds) S
  | .err n fs S => .err n fs S
  | .stuck => .stuck
theorem holds1 {K : PySem.W.Frag} {mg : Str → Option Value} {M : Addr → Prop} {p : List Addr} {H : Hp} {i : Int} {vs : List V} (h : Holds false K mg M p H [.int i] vs) : vs = [.int i] := by
  unfold Holds at h
  obtain ⟨v, r, rfl, h1, h2⟩ := h
  unfold Holds at h2
  cases h1; cases h2; rfl
theorem holds2 {K : PySem.W.Frag} {mg : Str → Option Value} {M : Addr → Prop} {p : List Addr} {H : Hp} {i j : Int} {vs : List V} (h : Holds false K mg M p H [.int i, .int j] vs) : vs = [.int i, .int j] := by
  unfold Holds at h
  obtain ⟨v, r, rfl, h1, h2⟩ := h
  cases h1; cases holds1 h2; rfl
theorem qiRange1 {q : Pos} {a : Ax} (h : PA X [e] (TAx false c a)) (hm : X.mg "range" = none) (hg : Gl X "range" := by rfl) (hs : starEach [e] X.env = [(false, eval e X.env)] := by rfl) : PI X tg (.Call (.Name "range" q) [e] [] pos) (TIx b c (fRange1 a)) :=
  piW (pi_range1 hg hm h hs) fun σ H R ⟨M, p, ow, ρ, S, F, h⟩ => by
    refine ⟨M, p, ow, ρ, S, F, ?_⟩
    unfold fRange1 at h
    cases z : a ρ S with
    | stuck => rw [z] at h; exact h
    | err n fs S' => rw [z] at h; exact h
    | ok ds S' =>
      rw [z] at h
      intro vs M' p' H' e m F' t
      cases y : rg1 ds with
      | none => simp only [y] at h; exact h.elim
      | some xs =>
        simp only [y] at h
        obtain ⟨j, rfl, b1, b2, rfl⟩ := rg1_some y
        exact ⟨j, holds1 t, b1, b2, h _ M' p' H' e m F' walks_rg⟩
theorem qiRange2 {q : Pos} {a : Ax} {e2 : Expr} (h : PA X [e, e2] (TAx false c a)) (hm : X.mg "range" = none) (hg : Gl X "range" := by rfl) (hs : starEach [e, e2] X.env = [(false, eval e X.env), (false, eval e2 X.env)] := by rfl) (hs2 : starEach [e2] X.env = [(false, eval e2 X.env)] := by rfl) : PI X tg (.Call (.Name "range" q) [e, e2] [] pos) (TIx b c (fRange2 a)) :=
  piW (pi_range2 hg hm h hs hs2) fun σ H R ⟨M, p, ow, ρ, S, F, h⟩ => by
    refine ⟨M, p, ow, ρ, S, F, ?_⟩
    unfold fRange2 at h
    cases z : a ρ S with
    | stuck => rw [z] at h; exact h
    | err n fs S' => rw [z] at h; exact h
    | ok ds S' =>
      rw [z] at h
      intro vs M' p' H' e m F' t
      cases y : rg2 ds with
      | none => simp only [y] at h; exact h.elim
      | some xs =>
        simp only [y] at h
        obtain ⟨i, j, rfl, b1, rfl⟩ := rg2_some y
        exact ⟨i, j, holds2 t, b1, h _ M' p' H' e m F' walks_rg⟩
end

/-! ### targets -/
/-- a target by contents -/
abbrev Tf := D → Gx
def gX (K : PySem.W.Frag) (mg : Str → Option Value) (W : WB) (tf : Tf) : TG := fun v σ H Q => ∃ c M p ow ρ S d, Cc K mg W c ∧ FR c M p H ow σ ρ S ∧ RD c.K c.mg M p H d v ∧ RS c (tf d ρ S) { nx := Q, rt := fun _ _ => False }
def TSA (K : PySem.W.Frag) (mg : Str → Option Value) (W : WB) (g : Gx) : TS := fun D σ H => ∃ c, Cc K mg W c ∧ TSx c g D σ H
/-- names alone: only the slots at vs are written -/
abbrev Tn := D → Rho → Option Rho
def TnOk (K : PySem.W.Frag) (mg : Str → Option Value) (vs : List Nat) (g : TG) (tf : Tn) : Prop := ∀ c M p H ow σ ρ S d v ρ' Q, c.K = K → FR c M p H ow σ ρ S → RD c.K c.mg M p H d v → tf d ρ = some ρ' →
  (∀ σ' ow', FR c M p H ow' σ' ρ' S → (∀ j, j ∉ vs → σ'[j]? = σ[j]?) → σ'.length = σ.length → Q σ' H) → g v σ H Q
abbrev Tns := List D → Rho → Option Rho
def TnsOk (K : PySem.W.Frag) (mg : Str → Option Value) (vs : List Nat) (g : TGs) (tf : Tns) : Prop := ∀ c M p H ow σ ρ S ds ws ρ' Q, c.K = K → FR c M p H ow σ ρ S → RDs c.K c.mg M p H ds ws → tf ds ρ = some ρ' →
  (∀ σ' ow', FR c M p H ow' σ' ρ' S → (∀ j, j ∉ vs → σ'[j]? = σ[j]?) → σ'.length = σ.length → Q σ' H) → g ws σ H Q
structure QTn (X : Cx) (vs : List Nat) (e : Expr) (g : TG) (tf : Tn) : Prop where
  pg : PG X e g
  ok : TnOk X.K X.mg vs g tf
structure QTns (X : Cx) (vs : List Nat) (es : List Expr) (g : TGs) (tf : Tns) : Prop where
  pg : PGs X es g
  ok : TnsOk X.K X.mg vs g tf
def tnName (i : Nat) : Tn := fun d ρ => some (ρ.set i (.val d))
def tnTup (n : Nat) (t : Tns) : Tn := fun d ρ => match d with
  | .tup _ ds => if ds.length = n then t ds ρ else none
  | _ => none
def tnNil : Tns := fun ds ρ => match ds with
  | [] => some ρ
  | _ => none
def tnCons (t : Tn) (r : Tns) : Tns := fun ds ρ => match ds with
  | d :: ds => (t d ρ).bind fun ρ' => r ds ρ'
  | [] => none
section
variable {X : Cx} {W : WB} {vs : List Nat} {e : Expr} {es : List Expr} {t : Tn} {r : Tns} {g : TG} {gs : TGs} {pos : Pos} {x : Str} {i : Nat}
theorem qtName (hN : X.N.Nodup) (hv : i ∈ vs) (hi : X.N[i]? = some x := by rfl) (hx : Loc X.env.scope x := by first | exact .inl rfl | exact .inr rfl) (hf : X.fn x = true ∨ X.env.scope.names.lookup x = some .local := by first | exact .inl rfl | exact .inr rfl | assumption) : QTn X vs (.Name x pos) (gName i) (tnName i) :=
  ⟨pg_name hN hi hx hf, fun c M p H ow σ ρ S d v ρ' Q _ R h e q => by
    cases e
    exact q _ _ (R.setVal h) (fun j hj => List.getElem?_set_ne fun z => hj (by rw [← z]; exact hv)) (List.length_set ..)⟩
theorem qtNil : QTns X vs [] gNil tnNil := ⟨pgs_nil, fun c M p H ow σ ρ S ds ws ρ' Q _ R h e q => by
  cases ds with
  | nil =>
    unfold RDs at h
    cases e
    exact ⟨h, q σ ow R (fun _ _ => rfl) rfl⟩
  | cons _ _ => cases e⟩
theorem qtCons (h1 : QTn X vs e g t) (h2 : QTns X vs es gs r) (hs : (assignEach (e :: es) X.env).map (·.2) = assign e X.env :: (assignEach es X.env).map (·.2) := by rfl) : QTns X vs (e :: es) (gCons g gs) (tnCons t r) := by
  obtain ⟨p1, o1⟩ := h1
  obtain ⟨p2, o2⟩ := h2
  refine ⟨pgs_cons p1 p2 hs, fun c M p H ow σ ρ S ds ws ρ' Q hK R h e q => ?_⟩
  cases ds with
  | nil => cases e
  | cons d ds =>
    unfold RDs at h
    obtain ⟨v, w, rfl, h3, h4⟩ := h
    cases z : t d ρ with
    | none => simp only [tnCons, z] at e; cases e
    | some ρ1 =>
      simp only [tnCons, z, Option.bind_some] at e
      refine ⟨v, w, rfl, o1 c M p H ow σ ρ S d v ρ1 _ hK R h3 z fun σ1 ow1 R1 a1 l1 => ?_⟩
      exact o2 c M p H ow1 σ1 ρ1 S ds w ρ' Q hK R1 h4 e fun σ2 ow2 R2 a2 l2 => q σ2 ow2 R2 (fun j hj => (a2 j hj).trans (a1 j hj)) (l2.trans l1)
theorem qtTup {k n : Nat} (hc : X.calm = true) (h : QTns X vs es gs r) (hn : (assignEach es X.env).length = n := by rfl) (hst : (assignEach es X.env).findIdx? (·.1) = none := by rfl) : QTn X vs (.Tuple es k pos) (gTup X.K n gs) (tnTup n r) := by
  obtain ⟨p1, o1⟩ := h
  refine ⟨pg_tup hc p1 hn hst, fun c M p H ow σ ρ S d v ρ' Q hK R h e q => ?_⟩
  cases d with
  | tup z ds =>
    simp only [tnTup] at e
    split at e
    · rename_i y
      unfold RD at h
      obtain ⟨a, ws, rfl, h2, h3⟩ := h
      exact ⟨a, ws, rfl, by rw [← hK]; exact h2.sq, h3.length.trans y, o1 c M p H ow σ ρ S ds ws ρ' Q hK R h3 e q⟩
    · cases e
  | _ => cases e
/-- .. in a loop -/
def tfOf (t : Tn) : Tf := fun d ρ S => match t d ρ with
  | some ρ' => .nx ρ' S
  | none => .stuck
theorem qtX (h : QTn X vs e g t) : PG X e (gX X.K X.mg W (tfOf t)) := by
  obtain ⟨p1, o1⟩ := h
  refine ⟨fun pins s σ H v u Q J r ⟨c, M, p, ow, ρ, S, d, cc, R, hd, h⟩ => p1.run pins s σ H v u Q J r ?_⟩
  unfold tfOf at h
  cases z : t d ρ with
  | none => rw [z] at h; exact h.elim
  | some ρ' => rw [z] at h; exact o1 c M p H ow σ ρ S d v ρ' Q cc.K R hd z fun σ' ow' R' _ _ => h σ' M p H ow' R'
end

/-! ### for -/
def forG (tf : Tf) (g : Gx) : List D → Gx
  | [], ρ, S => .nx ρ S
  | d :: ds, ρ, S => match tf d ρ S with
    | .nx ρ1 S1 => (match g ρ1 S1 with
      | .nx ρ2 S2 => forG tf g ds ρ2 S2
      | .ct ρ2 S2 => forG tf g ds ρ2 S2
      | .brk ρ2 S2 => .nx ρ2 S2
      | r => r)
    | .err n fs ρ S => .err n fs ρ S
    | _ => .stuck
def gFor (fi : Ax) (tf : Tf) (g : Gx) : Gx := fun ρ S => match fi ρ S with
  | .ok ds S => forG tf g ds ρ S
  | .err n fs S => .err n fs ρ S
  | .stuck => .stuck
section
variable {X : Cx} {W : WB} {c : Fc} {tg iter : Expr} {body : List Stmt} {fi : Ax} {tf : Tf} {g : Gx} {pos : Pos}
theorem Cc.snap {K : PySem.W.Frag} {mg : Str → Option Value} {M : Addr → Prop} {p : List Addr} {H : Hp} {ow : Nat → Option Addr} (h : Cc K mg W c) : Cc K mg W (c.snap M p H ow) := ⟨h.K, h.mg, h.W⟩
theorem qFor (cc : Cc X.K X.mg W c) (hp : PassesOwn (model X.prog X.w) X.A X.env X.xe) (hc : X.calm = true) (hi : PI X tg iter (TIx true c fi)) (hg : PG X tg (gX X.K X.mg W tf)) (hb : ∀ c, Cc X.K X.mg W c → PSs X body (TSx c g)) (hs : ∀ x, foldedSetIterable iter X.env x = pure x := by intro _; rfl) :
    PS X (.For tg iter body [] pos) (TSx c (gFor fi tf g)) := by
  have hbA : PSs X body (TSA X.K X.mg W g) := ⟨fun pins s σ H D J ⟨c, cc, h⟩ => (hb c cc).run pins s σ H D J h⟩
  refine psW (ps_for hp hc hi hg hbA hs) fun D σ H ⟨M, p, ow, ρ, S, R, h⟩ => ⟨M, p, ow, ρ, S, R, ?_⟩
  unfold gFor at h
  cases z : fi ρ S with
  | stuck => rw [z] at h; exact h
  | err n fs S' => rw [z] at h; exact fun C d M' p' H' hc e m R t => h C d σ M' p' H' ow hc R t
  | ok ds S1 =>
    simp only [z] at h
    intro J M1 p1 H1 e1 m1 R1 w
    have cc' : Cc X.K X.mg W (c.snap M1 p1 H1 ow) := cc.snap
    refine ⟨fun i m σ H => m = ds.length - i ∧ i ≤ ds.length ∧ ∃ M' p' ow' ρ' S', FR (c.snap M1 p1 H1 ow) M' p' H ow' σ ρ' S' ∧ RS c (forG tf g (ds.drop i) ρ' S') D, ⟨_, rfl, Nat.zero_le _, M1, p1, ow, ρ, S1, R1.snap, by rw [List.drop_zero]; exact h⟩, ?_⟩
    rintro i m σ2 H2 ⟨rfl, hi, M2, p2, ow2, ρ2, S2, R2, h2⟩
    have w2 := w M2 p2 H2 (R2.stb.mono fun a q => ⟨rfl, q⟩) R2.sto.muts R2.sto.inM R2.dom i
    by_cases hlt : i < ds.length
    · rw [List.getElem?_eq_getElem hlt] at w2
      rw [List.drop_eq_getElem_cons hlt] at h2
      obtain ⟨go, yl⟩ := w2
      refine .inr ⟨go, fun σ' H' => ∃ M' p' ow' ρ' S', FR (c.snap M1 p1 H1 ow) M' p' H' ow' σ' ρ' S' ∧ RS c (forG tf g (ds.drop (i + 1)) ρ' S') D, fun σ' H' ⟨M', p', ow', ρ', S', R', h'⟩ => ⟨ds.length - (i + 1), by omega, rfl, hlt, M', p', ow', ρ', S', R', h'⟩, fun x H3 y => ?_⟩
      obtain ⟨e3, same, rd⟩ := yl x H3 y
      have R3 := R2.step e3 (fun _ m => m) (R2.sto.grow e3 R2.sto.inM fun a ha => same a (R2.dom a (R2.sto.inM a ha))) fun a m => e3.dom a (R2.dom a m)
      refine ⟨c.snap M1 p1 H1 ow, M2, p2, ow2, ρ2, S2, ds[i], cc', R3, rd, ?_⟩
      simp only [forG] at h2
      cases z1 : tf ds[i] ρ2 S2 with
      | stuck => simp only [z1] at h2; exact h2
      | ret d S => simp only [z1] at h2; exact h2.elim
      | brk d S => simp only [z1] at h2; exact h2.elim
      | ct d S => simp only [z1] at h2; exact h2.elim
      | err n fs ρ3 S3 => simp only [z1] at h2; exact fun C d σ' M' p' H' ow' hc R' t => h2 C d σ' M' p' H' ow' hc (R1.unsnap R') t
      | nx ρ3 S3 =>
        simp only [z1] at h2
        intro σ4 M4 p4 H4 ow4 R4
        refine ⟨_, cc', M4, p4, ow4, ρ3, S3, R4, ?_⟩
        cases z2 : g ρ3 S3 with
        | stuck => simp only [z2] at h2; exact h2
        | nx ρ5 S5 => simp only [z2] at h2; exact fun σ' M' p' H' ow' R' => ⟨M', p', ow', ρ5, S5, R', h2⟩
        | ct ρ5 S5 => simp only [z2] at h2; exact fun σ' M' p' H' ow' R' => ⟨M', p', ow', ρ5, S5, R', h2⟩
        | brk ρ5 S5 => simp only [z2] at h2; exact fun σ' M' p' H' ow' R' => h2 σ' M' p' H' ow' (R1.unsnap R')
        | ret d S5 => simp only [z2] at h2; exact h2
        | err n fs ρ5 S5 => simp only [z2] at h2; exact fun C d σ' M' p' H' ow' hc R' t => h2 C d σ' M' p' H' ow' hc (R1.unsnap R') t
    · have ei : i = ds.length := by omega
      rw [List.getElem?_eq_none (by omega)] at w2
      rw [List.drop_eq_nil_of_le (by omega)] at h2
      exact .inl ⟨w2 ei, h2 σ2 M2 p2 H2 ow2 (R1.unsnap R2)⟩
end

/-! ### comprehensions -/
def wipeR (ρ : Rho) : List Nat → Rho
  | [] => ρ
  | v :: vs => (wipeR ρ vs).set v .emp
theorem FR.emp {c : Fc} {M : Addr → Prop} {p : List Addr} {H : Hp} {S : Sto} {ow : Nat → Option Addr} {σ : St} {ρ : Rho} (R : FR c M p H ow σ ρ S) (i : Nat) : FR c M p H (off ow i) (σ.set i none) (ρ.set i .emp) S where
  ext := R.ext
  M0 := R.M0
  sto := R.sto
  dom := R.dom
  own := fun j a h => R.own j a (off_some h).2
  inj := fun j k a h1 h2 => R.inj j k a (off_some h1).2 (off_some h2).2
  slots := fun j s hs => by
    by_cases e : j = i
    · subst e
      have hj : j < ρ.length := by
        have := (List.getElem?_eq_some_iff.mp hs).1
        simpa using this
      rw [List.getElem?_set_self hj] at hs
      cases hs
      exact if_pos rfl
    · rw [List.getElem?_set_ne (Ne.symm e)] at hs
      rw [List.getElem?_set_ne (Ne.symm e)]
      have q := R.slots j s hs
      rw [show off ow i j = ow j from if_neg e]
      exact q
  len := by rw [List.length_set, List.length_set]; exact R.len
  pin := R.pin
  pinM := R.pinM
  pinO := fun j a h => R.pinO j a (off_some h).2
  pinP := R.pinP
  pinp := R.pinp
  m0d := R.m0d
  oln := fun j a h => R.oln j a (off_some h).2
  bor := fun j xs hs => by
    by_cases e : j = i
    · subst e
      have hj : j < ρ.length := by
        have := (List.getElem?_eq_some_iff.mp hs).1
        simpa using this
      rw [List.getElem?_set_self hj] at hs
      cases hs
    · rw [List.getElem?_set_ne (Ne.symm e)] at hs
      rw [List.getElem?_set_ne (Ne.symm e)]
      exact R.bor j xs hs
theorem FR.wipe {c : Fc} {M : Addr → Prop} {p : List Addr} {H : Hp} {S : Sto} {ow : Nat → Option Addr} {σ : St} {ρ : Rho} (R : FR c M p H ow σ ρ S) : ∀ vs, ∃ ow', FR c M p H ow' (L2.wipe σ vs) (wipeR ρ vs) S
  | [] => ⟨ow, R⟩
  | v :: vs => by
    obtain ⟨ow', R'⟩ := R.wipe vs
    exact ⟨_, R'.emp v⟩
theorem wipe_in {σ : St} {i : Nat} : ∀ {vs : List Nat}, i ∈ vs → (wipe σ vs)[i]? = if i < σ.length then some none else none
  | [], h => nomatch h
  | v :: vs, h => by
    unfold wipe
    by_cases e : v = i
    · subst e
      by_cases hl : v < σ.length
      · rw [List.getElem?_set_self (by rw [wipe_length]; exact hl), if_pos hl]
      · rw [List.getElem?_eq_none (by rw [List.length_set, wipe_length]; omega), if_neg hl]
    · rw [List.getElem?_set_ne e]
      exact wipe_in ((List.mem_cons.mp h).resolve_left (Ne.symm e))
theorem wipe_same {σ σ' : St} {vs : List Nat} (a : ∀ j, j ∉ vs → σ'[j]? = σ[j]?) (l : σ'.length = σ.length) : wipe σ' vs = wipe σ vs := by
  apply List.ext_getElem?
  intro j
  by_cases h : j ∈ vs
  · rw [wipe_in h, wipe_in h, l]
  · rw [wipe_out h, wipe_out h, a j h]
theorem wipe_wipe {σ : St} {vs : List Nat} : wipe (wipe σ vs) vs = wipe σ vs := wipe_same (fun j h => wipe_out h) (wipe_length σ vs)
def lcG (vs : List Nat) (t : Tn) (ft fe : Fx) : List D → List D → Fx
  | [], acc, _, S => .ok (.lst acc) S
  | d :: ds, acc, ρ, S => match t d (wipeR ρ vs) with
    | none => .stuck
    | some ρ1 => (match ft ρ1 S with
      | .ok (.bl true) S2 => (match fe ρ1 S2 with
        | .ok y S3 => if acc.length < 1000000 then lcG vs t ft fe ds (acc ++ [y]) ρ S3 else .stuck
        | _ => .stuck)
      | .ok (.bl false) S2 => lcG vs t ft fe ds acc ρ S2
      | _ => .stuck)
def fLc (vs : List Nat) (fi : Ax) (t : Tn) (ft fe : Fx) : Fx := fun ρ S => match fi ρ S with
  | .ok ds S => lcG vs t ft fe ds [] ρ S
  | .err n fs S => .err n fs S
  | .stuck => .stuck
def fYes : Fx := fun _ S => .ok (.bl true) S
theorem qtsNil {X : Cx} {c : Fc} : PTs X [] (TB c fYes) := ⟨fun pins s σ H Q J ⟨M, p, ow, ρ, S, R, h⟩ => pts_nil.run pins s σ H Q J (h M p H .refl (fun _ m => m) R)⟩
theorem lcRead {c : Fc} {vs : List Nat} {fi : Ax} {t : Tn} {ft fe : Fx} {K : PySem.W.Frag} {mg : Str → Option Value} {g : TG} (hK : c.K = K) (ok : TnOk K mg vs g t) (σ : St) (H : Hp) (Q : VK) (h : TX .f c (fLc vs fi t ft fe) σ H Q) : tLc (TIx false c fi) g (TB c ft) (TX .r c fe) vs σ H Q := by
  obtain ⟨M, p, ow, ρ, S, R, h⟩ := h
  refine ⟨M, p, ow, ρ, S, R, ?_⟩
  unfold fLc at h
  cases z : fi ρ S with
  | stuck => rw [z] at h; exact h
  | err n fs S' => rw [z] at h; exact h
  | ok ds S1 =>
    simp only [z] at h
    intro J M1 p1 H1 e1 m1 R1 w L hL
    obtain ⟨z1, z2, z3⟩ := R1.h0 hL
    have h := h.later e1 m1
    refine ⟨fun i m H => m = ds.length - i ∧ i ≤ ds.length ∧ ∃ M' p' S' acc vacc, FR c M' p' H ow σ ρ S' ∧ Ext M1 p1 H1 M' p' H ∧ (∀ a, M1 a → M' a) ∧ M' L ∧ L ∉ p' ∧ H L = some (.lst vacc) ∧ RDs c.K c.mg M' p' H acc vacc ∧ RX .f c M1 p1 H1 ow σ ρ (lcG vs t ft fe (ds.drop i) acc ρ S') Q,
      ⟨_, rfl, Nat.zero_le _, _, p1, S1, [], [], R1.newM hL, Ext.newM hL, fun _ m => .inl m, .inr rfl, fun z => nofree hL R1.dom (R1.sto.inM L z) rfl, upd_same, RDs.nil, by rw [List.drop_zero]; exact h⟩, ?_⟩
    rintro i m H2 ⟨rfl, hi, M2, p2, S2, acc, vacc, R2, e2, m2, mL, pL, hL2, ra, h2⟩
    have w2 := w M2 p2 H2 (e2.stb.mono fun a q => q.elim) R2.sto.muts R2.sto.inM R2.dom i
    by_cases hlt : i < ds.length
    · rw [List.getElem?_eq_getElem hlt] at w2
      rw [List.drop_eq_getElem_cons hlt] at h2
      obtain ⟨go, yl⟩ := w2
      refine .inr ⟨go, fun H' => i + 1 ≤ ds.length ∧ ∃ M' p' S' acc vacc, FR c M' p' H' ow σ ρ S' ∧ Ext M1 p1 H1 M' p' H' ∧ (∀ a, M1 a → M' a) ∧ M' L ∧ L ∉ p' ∧ H' L = some (.lst vacc) ∧ RDs c.K c.mg M' p' H' acc vacc ∧ RX .f c M1 p1 H1 ow σ ρ (lcG vs t ft fe (ds.drop (i + 1)) acc ρ S') Q,
        fun H' q => ⟨_, by omega, rfl, q⟩, fun x H3 y => ?_⟩
      obtain ⟨e3, same, rd⟩ := yl x H3 y
      have R3 := R2.step e3 (fun _ m => m) (R2.sto.grow e3 R2.sto.inM fun a ha => same a (R2.dom a (R2.sto.inM a ha))) fun a m => e3.dom a (R2.dom a m)
      have ra3 := RDs.ext e3 R2.sto.muts R2.sto.inM acc vacc ra
      have hL3 := e3.keep L _ hL2 pL
      have e13 := e2.trans e3
      obtain ⟨ow4, R4⟩ := R3.wipe vs
      simp only [lcG] at h2
      cases z4 : t ds[i] (wipeR ρ vs) with
      | none => simp only [z4] at h2; exact h2.elim
      | some ρ1 =>
        simp only [z4] at h2
        refine ok c M2 p2 H3 ow4 (wipe σ vs) (wipeR ρ vs) S2 ds[i] x ρ1 _ hK R4 rd z4 fun σ5 ow5 R5 a5 l5 => ⟨(wipe_same a5 l5).trans wipe_wipe, M2, p2, ow5, ρ1, S2, R5, ?_⟩
        cases z5 : ft ρ1 S2 with
        | stuck => simp only [z5] at h2; exact h2.elim
        | err n fs S' => simp only [z5] at h2; exact h2.elim
        | ok b S6 =>
          cases b with
          | bl b =>
            intro M6 p6 H6 e6 m6 R6
            have o6 := R3.step e6 m6 R6.sto R6.dom
            have ra6 := RDs.ext e6 R3.sto.muts R3.sto.inM acc vacc ra3
            have hL6 := e6.keep L _ hL3 pL
            have pL6 := e6.nin (by rw [hL3]; simp) pL
            cases b with
            | false =>
              simp only [z5] at h2
              rw [if_neg Bool.false_ne_true]
              exact ⟨hlt, M6, p6, S6, acc, vacc, o6, e13.trans e6, fun a q => m6 a (m2 a q), m6 L mL, pL6, hL6, ra6, h2⟩
            | true =>
              rw [if_pos rfl]
              refine ⟨M6, p6, ow5, ρ1, S6, R6, ?_⟩
              simp only [z5] at h2
              cases z7 : fe ρ1 S6 with
              | stuck => simp only [z7] at h2; exact h2.elim
              | err n fs S' => simp only [z7] at h2; exact h2.elim
              | ok y S8 =>
                simp only [z7] at h2
                intro yv M8 p8 H8 e8 m8 R8 ty
                split at h2
                · rename_i hle
                  have o8 := o6.step e8 m8 R8.sto R8.dom
                  have ra8 := RDs.ext e8 o6.sto.muts o6.sto.inM acc vacc ra6
                  have hL8 := e8.keep L _ hL6 pL6
                  have pL8 := e8.nin (by rw [hL6]; simp) pL6
                  have mL8 : M8 L := m8 L (m6 L mL)
                  have mu : Wx (H8 L) := by rw [hL8]; trivial
                  refine ⟨vacc, hL8, millT (by rw [ra.length]; exact Nat.le_of_lt hle), hlt, M8, p8, S8, acc ++ [y], vacc ++ [yv], o8.tmp mL8 pL8 z1 z2 z3 mu, ((e13.trans e6).trans e8).chg hL, fun a q => m8 a (m6 a (m2 a q)), mL8, pL8, upd_same, ?_, h2⟩
                  exact RDs.chg mL8 mu _ _ (RDs.append ra8 (RDs.cons ty RDs.nil))
                · exact h2.elim
          | _ => simp only [z5] at h2; exact h2.elim
    · have ei : i = ds.length := by omega
      rw [List.getElem?_eq_none (by omega)] at w2
      rw [List.drop_eq_nil_of_le (by omega)] at h2
      exact .inl ⟨w2 ei, h2 _ M2 p2 H2 e2 m2 R2 ⟨L, vacc, rfl, mL, pL, hL, hL2, ra⟩⟩
section
variable {X : Cx} {W : WB} {c : Fc} {tg iter elt : Expr} {ifs : List Expr} {scope : Scope} {own : List (Str × Nat)} {fi : Ax} {t : Tn} {g : TG} {ft fe : Fx} {pos : Pos}
theorem qLcW (cc : Cc X.K X.mg W c) (hc : X.calm = true) (hN : X.N.Nodup) (ok : BlkOk X.N X.env.scope scope own) (hi : PI X tg iter (TIx false c fi))
    (hg : ∀ (s : Shared) (H : Hp) (C : Addr) (cl : List (Str × Addr)) (fp : List Addr), QTn (X.blk s H scope (compEnvC scope cl C X.env) fp) (own.map (·.2)) tg g t)
    (ht : ∀ (s : Shared) (H : Hp) (C : Addr) (cl : List (Str × Addr)) (fp : List Addr), PTs (X.blk s H scope (compEnvC scope cl C X.env) fp) ifs (TB c ft))
    (he : ∀ (s : Shared) (H : Hp) (C : Addr) (cl : List (Str × Addr)) (fp : List Addr), PE (X.blk s H scope (compEnvC scope cl C X.env) fp) elt (TX .r c fe)) (hs : ∀ x, foldedSetIterable iter X.env x = pure x := by intro _; rfl) :
    PE X (.ListComp elt [⟨tg, iter, ifs, 0⟩] scope pos) (TX .f c (fLc (own.map (·.2)) fi t ft fe)) :=
  ⟨fun pins s σ H Q J h => (pe_lc hc hN hi ok (fun s H C cl fp => (hg s H C cl fp).pg) ht he hs).run pins s σ H Q J (lcRead cc.K (hg s H s.heap.objs.size [] []).ok σ H Q h)⟩
theorem qSetLc {i : Nat} {y : Str} {py spos : Pos} (cc : Cc X.K X.mg W c) (hc : X.calm = true) (hN : X.N.Nodup) (hy : X.N[i]? = some y) (hyl : X.env.scope.names.lookup y = some .local)
    (hsw : swapsWith (.ListComp elt [⟨tg, iter, ifs, 0⟩] scope pos) (some (.Name y py)) spos.line X.env = pure true) (ok : BlkOk X.N X.env.scope scope own) (hi : PI X tg iter (TIx false c fi))
    (hg : ∀ (s : Shared) (H : Hp) (C : Addr) (cl : List (Str × Addr)) (fp : List Addr), QTn (X.blk s H scope (compEnvC scope cl C X.env) fp) (own.map (·.2)) tg g t)
    (ht : ∀ (s : Shared) (H : Hp) (C : Addr) (cl : List (Str × Addr)) (fp : List Addr), PTs (X.blk s H scope (compEnvC scope cl C X.env) fp) ifs (TB c ft))
    (he : ∀ (s : Shared) (H : Hp) (C : Addr) (cl : List (Str × Addr)) (fp : List Addr), PE (X.blk s H scope (compEnvC scope cl C X.env) fp) elt (TX .r c fe)) (hs : ∀ x, foldedSetIterable iter X.env x = pure x := by intro _; rfl) :
    PS X (.Assign [.Name y py] (.ListComp elt [⟨tg, iter, ifs, 0⟩] scope pos) spos) (TSx c (gSet i (fLc (own.map (·.2)) fi t ft fe))) :=
  ⟨fun pins s σ H D J ⟨M, p, ow, ρ, S, R, h⟩ => (ps_setLc hc hN hy hyl hsw hi ok (fun s H C cl fp => (hg s H C cl fp).pg) ht he hs).run pins s σ H D J (lcRead cc.K (hg s H s.heap.objs.size [] []).ok σ H _
    ⟨M, p, ow, ρ, S, R, (RS.then (k := .f) h).mono fun v H1 ⟨d, S1, M1, p1, e1, R1, t1, h1⟩ => by
      obtain ⟨ow', R2⟩ := FR.put (i := i) R R1 t1
      exact h1 _ _ _ _ _ R2⟩)⟩
end
end QL

set_option Elab.async false
set_option linter.all false
set_option maxRecDepth 100000
/-! QK: tests, choices, statements that change lists -/
namespace QL
open PySem PySem.Spec L2
open PyProof.Rows hiding St

section
variable {X : Cx} {W : WB} {c : Fc} {a b e : Expr} {es : List Expr} {pos : Pos} {f fa fb ft : Fx} {k : Kd} {g : Gx}
/-! ### tests -/
theorem qtVal (h : PE X e (TX .t c f)) (he : ∀ whole, isTrue e X.env whole = (do let v ← whole; standAt e.pos; holding [v] (truthy v)) := by intro _; rfl) : PT X e (TB c f) := by
  refine ptW (pt_val h he) fun σ H Q ⟨M, p, ow, ρ, S, R, h⟩ => ⟨M, p, ow, ρ, S, R, ?_⟩
  cases z : f ρ S with
  | stuck => rw [z] at h; exact h
  | err n fs S' => rw [z] at h; exact h
  | ok d S' =>
    rw [z] at h
    cases d with
    | bl b => exact fun v M' p' H' e m R t => ⟨b, t, h M' p' H' e m R⟩
    | _ => exact h.elim
def fAnd (fa fb : Fx) : Fx := fun ρ S => (fa ρ S).bind fun d S => match d with
  | .bl true => fb ρ S
  | .bl false => .ok (.bl false) S
  | _ => .stuck
def fOr (fa fb : Fx) : Fx := fun ρ S => (fa ρ S).bind fun d S => match d with
  | .bl true => .ok (.bl true) S
  | .bl false => fb ρ S
  | _ => .stuck
def fNot (fa : Fx) : Fx := fun ρ S => (fa ρ S).bind fun d S => match d with
  | .bl b => .ok (.bl !b) S
  | _ => .stuck
theorem RB.bindT {M : Addr → Prop} {p : List Addr} {H : Hp} {ow : Nat → Option Addr} {σ : St} {ρ : Rho} {r : Res} {k : D → Sto → Res} {Q : Bool → Hp → Prop} (n : ∀ d S, (∀ b, d ≠ .bl b) → k d S = .stuck) (h : RB c M p H ow σ ρ (r.bind k) Q) :
    RB c M p H ow σ ρ r fun b H1 => ∃ S1 M1 p1, FR c M1 p1 H1 ow σ ρ S1 ∧ RB c M1 p1 H1 ow σ ρ (k (.bl b) S1) Q := by
  cases r with
  | stuck => exact h
  | err n fs S => exact h
  | ok d S =>
    have h : RB c M p H ow σ ρ (k d S) Q := h
    by_cases hb : ∃ b, d = .bl b
    · obtain ⟨b, rfl⟩ := hb
      exact fun M' p' H' e m R => ⟨S, M', p', R, RB.later h e m⟩
    · rw [n d S (fun b z => hb ⟨b, z⟩)] at h
      exact h.elim
theorem qtNot (h : PT X a (TB c fa)) : PT X (.UnaryOp .Not a pos) (TB c (fNot fa)) := ptW (pt_not h) fun σ H Q ⟨M, p, ow, ρ, S, R, h⟩ => ⟨M, p, ow, ρ, S, R, by
  unfold fNot at h
  have q := RB.bindT (fun d S n => by cases d <;> first | rfl | exact absurd rfl (n _)) h
  cases z : fa ρ S with
  | stuck => rw [z] at q; exact q
  | err n fs S' => rw [z] at q; exact q
  | ok d S' =>
    rw [z] at q
    cases d with
    | bl b =>
      intro M' p' H' e m R'
      obtain ⟨S1, M1, p1, R1, h1⟩ := q M' p' H' e m R'
      exact h1 M1 p1 H' .refl (fun _ m => m) R1
    | _ => exact q.elim⟩
theorem RB.mono {M : Addr → Prop} {p : List Addr} {H : Hp} {ow : Nat → Option Addr} {σ : St} {ρ : Rho} {r : Res} {Q Q' : Bool → Hp → Prop} (h : RB c M p H ow σ ρ r Q) (w : ∀ b H, Q b H → Q' b H) : RB c M p H ow σ ρ r Q' := by
  cases r with
  | stuck => exact h
  | err n fs S => exact h
  | ok d S =>
    cases d with
    | bl b => exact fun M' p' H' e m R => w _ _ (h M' p' H' e m R)
    | _ => exact h
theorem qtAnd {rest : List Expr} (ha : PT X a (TB c fa)) (hb : PW X (.BoolOp .And (b :: rest) pos) (TB c fb)) : PW X (.BoolOp .And (a :: b :: rest) pos) (TB c (fAnd fa fb)) := pwW (pw_and ha hb) fun σ H Q ⟨M, p, ow, ρ, S, R, h⟩ => ⟨M, p, ow, ρ, S, R, by
  unfold fAnd at h
  refine RB.mono (RB.bindT (fun d S n => by cases d <;> first | rfl | exact absurd rfl (n _)) h) fun t H1 ⟨S1, M1, p1, R1, h1⟩ => ?_
  cases t with
  | true => exact ⟨M1, p1, ow, ρ, S1, R1, h1⟩
  | false => exact h1 M1 p1 H1 .refl (fun _ m => m) R1⟩
theorem qtOr {rest : List Expr} (ha : PT X a (TB c fa)) (hb : PW X (.BoolOp .Or (b :: rest) pos) (TB c fb)) : PW X (.BoolOp .Or (a :: b :: rest) pos) (TB c (fOr fa fb)) := pwW (pw_or ha hb) fun σ H Q ⟨M, p, ow, ρ, S, R, h⟩ => ⟨M, p, ow, ρ, S, R, by
  unfold fOr at h
  refine RB.mono (RB.bindT (fun d S n => by cases d <;> first | rfl | exact absurd rfl (n _)) h) fun t H1 ⟨S1, M1, p1, R1, h1⟩ => ?_
  cases t with
  | false => exact ⟨M1, p1, ow, ρ, S1, R1, h1⟩
  | true => exact h1 M1 p1 H1 .refl (fun _ m => m) R1⟩
/-! ### .. as values -/
theorem RX.bindB {M : Addr → Prop} {p : List Addr} {H : Hp} {ow : Nat → Option Addr} {σ : St} {ρ : Rho} {r : Res} {t : D → Sto → Res} {Q : VK} (n : ∀ d S, (∀ b, d ≠ .bl b) → t d S = .stuck) (h : RX k c M p H ow σ ρ (r.bind t) Q) :
    RX .t c M p H ow σ ρ r fun v H1 => ∃ b S1 M1 p1, v = .bl b ∧ FR c M1 p1 H1 ow σ ρ S1 ∧ RX k c M1 p1 H1 ow σ ρ (t (.bl b) S1) Q := by
  refine (RX.bind (k' := .t) h).mono fun v H1 ⟨d, S1, M1, p1, e1, R1, t1, h1⟩ => ?_
  by_cases hb : ∃ b, d = .bl b
  · obtain ⟨b, rfl⟩ := hb
    exact ⟨b, S1, M1, p1, t1, R1, h1⟩
  · rw [n d S1 (fun b z => hb ⟨b, z⟩)] at h1
    exact h1.elim
theorem RX.bl {M : Addr → Prop} {p : List Addr} {H : Hp} {ow : Nat → Option Addr} {σ : St} {ρ : Rho} {S : Sto} {t : Bool} {Q : VK} (R : FR c M p H ow σ ρ S) (h : RX k c M p H ow σ ρ (.ok (.bl t) S) Q) : Q (.bl t) H := by
  refine h _ M p H .refl (fun _ m => m) R ?_
  cases k with
  | t => rfl
  | r => unfold Came RD; rfl
  | f => unfold Came RD; rfl
theorem qAndV {rest : List Expr} (ha : PE X a (TX .t c fa)) (hb : PE X (.BoolOp .And (b :: rest) pos) (TX k c fb)) : PE X (.BoolOp .And (a :: b :: rest) pos) (TX k c (fAnd fa fb)) := peW (pe_and ha hb) fun σ H Q ⟨M, p, ow, ρ, S, R, h⟩ => ⟨M, p, ow, ρ, S, R, by
  unfold fAnd at h
  refine (RX.bindB (fun d S n => by cases d <;> first | rfl | exact absurd rfl (n _)) h).mono fun v H1 ⟨t, S1, M1, p1, ev, R1, h1⟩ => ⟨t, ev, ?_⟩
  cases t with
  | true => exact ⟨M1, p1, ow, ρ, S1, R1, h1⟩
  | false => exact RX.bl R1 h1⟩
theorem qOrV {rest : List Expr} (ha : PE X a (TX .t c fa)) (hb : PE X (.BoolOp .Or (b :: rest) pos) (TX k c fb)) : PE X (.BoolOp .Or (a :: b :: rest) pos) (TX k c (fOr fa fb)) := peW (pe_or ha hb) fun σ H Q ⟨M, p, ow, ρ, S, R, h⟩ => ⟨M, p, ow, ρ, S, R, by
  unfold fOr at h
  refine (RX.bindB (fun d S n => by cases d <;> first | rfl | exact absurd rfl (n _)) h).mono fun v H1 ⟨t, S1, M1, p1, ev, R1, h1⟩ => ⟨t, ev, ?_⟩
  cases t with
  | false => exact ⟨M1, p1, ow, ρ, S1, R1, h1⟩
  | true => exact RX.bl R1 h1⟩
theorem qNotV (ha : PE X a (TX .t c fa)) : PE X (.UnaryOp .Not a pos) (TX k c (fNot fa)) := peW (pe_not ha) fun σ H Q ⟨M, p, ow, ρ, S, R, h⟩ => ⟨M, p, ow, ρ, S, R, by
  unfold fNot at h
  exact (RX.bindB (fun d S n => by cases d <;> first | rfl | exact absurd rfl (n _)) h).mono fun v H1 ⟨t, S1, M1, p1, ev, R1, h1⟩ => ⟨t, ev, RX.bl R1 h1⟩⟩
def fIf (ft fa fb : Fx) : Fx := fun ρ S => (ft ρ S).bind fun d S => match d with
  | .bl true => fa ρ S
  | .bl false => fb ρ S
  | _ => .stuck
theorem RB.toX {M : Addr → Prop} {p : List Addr} {H : Hp} {ow : Nat → Option Addr} {σ : St} {ρ : Rho} {r : Res} {t : D → Sto → Res} {Q : VK} (n : ∀ d S, (∀ b, d ≠ .bl b) → t d S = .stuck) (h : RX k c M p H ow σ ρ (r.bind t) Q) :
    RB c M p H ow σ ρ r fun b H1 => ∃ S1 M1 p1, FR c M1 p1 H1 ow σ ρ S1 ∧ RX k c M1 p1 H1 ow σ ρ (t (.bl b) S1) Q := by
  cases r with
  | stuck => exact h
  | err n fs S => exact h
  | ok d S =>
    have h : RX k c M p H ow σ ρ (t d S) Q := h
    by_cases hb : ∃ b, d = .bl b
    · obtain ⟨b, rfl⟩ := hb
      exact fun M' p' H' e m R => ⟨S, M', p', R, RX.later h e m⟩
    · rw [n d S (fun b z => hb ⟨b, z⟩)] at h
      exact h.elim
theorem qIfE {t : Expr} (ht : PT X t (TB c ft)) (ha : PE X a (TX k c fa)) (hb : PE X b (TX k c fb)) : PE X (.IfExp t a b pos) (TX k c (fIf ft fa fb)) := peW (pe_ifExp ht ha hb) fun σ H Q ⟨M, p, ow, ρ, S, R, h⟩ => ⟨M, p, ow, ρ, S, R, by
  unfold fIf at h
  refine RB.mono (RB.toX (fun d S n => by cases d <;> first | rfl | exact absurd rfl (n _)) h) fun t H1 ⟨S1, M1, p1, R1, h1⟩ => ?_
  cases t with
  | true => exact ⟨M1, p1, ow, ρ, S1, R1, h1⟩
  | false => exact ⟨M1, p1, ow, ρ, S1, R1, h1⟩⟩
/-! ### chains -/
def fChain (g g' : D → D → Option D) (fa fb fc : Fx) : Fx := fun ρ S => (fa ρ S).bind fun d S => (fb ρ S).bind fun e S => match g d e with
  | some (.bl true) => (fc ρ S).bind fun u S => lift (g' e u) S
  | some (.bl false) => .ok (.bl false) S
  | _ => .stuck
theorem chainA {r r' : R2} {g g' : D → D → Option D} {fc : Fx} (h1 : Op2Ok .t c.K c.mg r g) (h2 : Op2Ok k c.K c.mg r' g') (σ : St) (H : Hp) (Q : VK) (h : TX k c (fChain g g' fa fb fc) σ H Q) : tChain r r' (TX .t c fa) (TX .t c fb) (TX .t c fc) σ H Q := by
  obtain ⟨M, p, ow, ρ, S, R, h⟩ := h
  refine ⟨M, p, ow, ρ, S, R, (RX.bind (k' := .t) h).mono fun v Ha ⟨d, Sa, Ma, pa, ea, Ra, ta, hA⟩ => ⟨Ma, pa, ow, ρ, Sa, Ra, (RX.bind (k' := .t) hA).mono fun w Hb ⟨e, Sb, Mb, pb, eb, Rb, tb, hB⟩ => ?_⟩⟩
  have ta' := TV.ext eb Ra.sto.muts Ra.sto.inM d v ta
  cases z : g d e with
  | none => simp only [z] at hB; exact hB.elim
  | some x =>
    cases x with
    | bl t =>
      refine h1 Mb pb Hb Sb d e v w (.bl t) _ Rb.sto Rb.dom ta' tb z fun y M' p' H' e' m' s' d' cm => ⟨t, cm, ?_⟩
      have R' := Rb.step e' m' s' d'
      cases t with
      | false =>
        simp only [z] at hB
        rw [if_neg Bool.false_ne_true]
        exact RX.bl R' (hB.later e' m')
      | true =>
        simp only [z] at hB
        rw [if_pos rfl]
        refine ⟨M', p', ow, ρ, Sb, R', (RX.bind (k' := .t) (hB.later e' m')).mono fun u Hc ⟨q, Sc, Mc, pc, ec, Rc, tc, hC⟩ => ?_⟩
        cases y2 : g' e q with
        | none => rw [y2] at hC; exact hC.elim
        | some x =>
          rw [y2] at hC
          exact h2 Mc pc Hc Sc e q w u x Q Rc.sto Rc.dom (TV.ext ec R'.sto.muts R'.sto.inM e w (TV.ext e' Rb.sto.muts Rb.sto.inM e w tb)) tc y2 (Ans.of Rc hC)
    | _ => simp only [z] at hB; exact hB.elim
theorem qChain {op op' : CmpOp} {r r' : R2} {g g' : D → D → Option D} {u : Expr} {fc : Fx} (o1 : OpR X (compareOp op) r) (o2 : OpR X (compareOp op') r') (h1 : Op2Ok .t c.K c.mg r g) (h2 : Op2Ok k c.K c.mg r' g') (ha : PE X a (TX .t c fa)) (hb : PE X b (TX .t c fb)) (hu : PE X u (TX .t c fc))
    (hm : lastMarks [op, op'] [b, u] = false := by with_unfolding_all rfl) : PE X (.Compare a [op, op'] [b, u] pos) (TX k c (fChain g g' fa fb fc)) := peW (pe_chain o1 o2 ha hb hu hm) (chainA h1 h2)
theorem qChainT {op op' : CmpOp} {r r' : R2} {g g' : D → D → Option D} {u : Expr} {fc : Fx} (o1 : OpR X (compareOp op) r) (o2 : OpR X (compareOp op') r') (h1 : Op2Ok .t c.K c.mg r g) (h2 : Op2Ok .t c.K c.mg r' g') (ha : PE X a (TX .t c fa)) (hb : PE X b (TX .t c fb)) (hu : PE X u (TX .t c fc))
    (hm : lastMarks [op, op'] [b, u] = false := by with_unfolding_all rfl) : PT X (.Compare a [op, op'] [b, u] pos) (TB c (fChain g g' fa fb fc)) := by
  refine ptW (pt_chain o1 o2 ha hb hu hm) fun σ H Q ⟨M, p, ow, ρ, S, R, h⟩ => chainA (k := .t) h1 h2 σ H _ ⟨M, p, ow, ρ, S, R, ?_⟩
  cases z : fChain g g' fa fb fc ρ S with
  | stuck => rw [z] at h; exact h
  | err n fs S' => rw [z] at h; exact h
  | ok d S' =>
    rw [z] at h
    cases d with
    | bl b => exact fun v M' p' H' e m R t => ⟨b, t, h M' p' H' e m R⟩
    | _ => exact h.elim
end
/-- f: no list comes of it: kinds f and t agree -/
theorem Op2Ok.t {K : PySem.W.Frag} {mg : Str → Option Value} {r : R2} {g : D → D → Option D} (h : Op2Ok .f K mg r g) : Op2Ok .t K mg r g := fun M p H S d e v w x Q R hd tv tw hg a => h M p H S d e v w x Q R hd tv tw hg fun y M' p' H' e' m s d' cm => a y M' p' H' e' m s d' (cm.t_of s.inM)
theorem Op1Ok.t {K : PySem.W.Frag} {mg : Str → Option Value} {r : V → Hp → VK → Prop} {g : D → Option D} (h : Op1Ok .f K mg r g) : Op1Ok .t K mg r g := fun M p H S d v x Q R hd tv hg a => h M p H S d v x Q R hd tv hg fun y M' p' H' e' m s d' cm => a y M' p' H' e' m s d' (cm.t_of s.inM)

/-! ### statements that write -/
section
variable {X : Cx} {W : WB} {c : Fc} {a b e ix : Expr} {es : List Expr} {pos : Pos} {f fa fb fi : Fx} {g : Gx} {i j : Nat} {x y : Str}
def gPar (i j : Nat) (fa fb : Fx) : Gx := fun ρ S => thenG (fa ρ S) ρ fun d S => thenG (fb ρ S) ρ fun e S => .nx ((ρ.set i (putSl d)).set j (putSl e)) S
theorem RS.thenM {k : Kd} {M : Addr → Prop} {p : List Addr} {H : Hp} {ow : Nat → Option Addr} {σ : St} {ρ : Rho} {r : Res} {t : D → Sto → SRes} {D : Ends} (h : RS c (thenG r ρ t) D) :
    RX k c M p H ow σ ρ r fun v H1 => ∃ d S1 M1 p1, Ext M p H M1 p1 H1 ∧ (∀ a, M a → M1 a) ∧ FR c M1 p1 H1 ow σ ρ S1 ∧ Came k c.K c.mg H M1 p1 H1 d v ∧ RS c (t d S1) D := by
  cases r with
  | ok d S => exact fun v M1 p1 H1 e m R t => ⟨d, S, M1, p1, e, m, R, t, h⟩
  | err n fs S => exact fun C d M' p' H' hc e m R t => h C d σ M' p' H' ow hc R t
  | stuck => exact h
theorem Came.ext {K : PySem.W.Frag} {mg : Str → Option Value} {M M' : Addr → Prop} {p p' : List Addr} {H0 H H' : Hp} {S : Sto} {d : D} {v : V} (R : SR K mg M p H S) (e : Ext M p H M' p' H') (m : ∀ a, M a → M' a) (h : Came .f K mg H0 M p H d v) : Came .f K mg H0 M' p' H' d v := by
  cases d with
  | lst ds =>
    obtain ⟨a, vs, h1, h2, h3, h4, h5, h6⟩ := h
    exact ⟨a, vs, h1, m a h2, e.nin (by rw [h5]; simp) h3, h4, e.keep a _ h5 h3, RDs.ext e R.muts R.inM ds vs h6⟩
  | _ => exact RD.ext e R.muts R.inM _ v h
theorem qPar {px py pt : Pos} {kt k2 pt2} (hc : X.calm = true) (hN : X.N.Nodup) (ha : PE X a (TX .f c fa)) (hb : PE X b (TX .f c fb)) (hi : X.N[i]? = some x := by rfl) (hj : X.N[j]? = some y := by rfl) (hij : i ≠ j := by decide)
    (hx : X.env.scope.names.lookup x = some .local := by rfl) (hy : X.env.scope.names.lookup y = some .local := by rfl)
    (hw : swappedStores [.Tuple [.Name x px, .Name y py] kt pt] (.Tuple [a, b] k2 pt2) X.env = pure (some [x, y]) := by rfl) (hs : swapsWithSole [.Tuple [.Name x px, .Name y py] kt pt] (.Tuple [a, b] k2 pt2) pos.line X.env = pure false := by rfl)
    (h1 : starEach [a, b] X.env = (false, eval a X.env) :: starEach [b] X.env := by rfl) (h2 : starEach [b] X.env = (false, eval b X.env) :: starEach [] X.env := by rfl) :
    PS X (.Assign [.Tuple [.Name x px, .Name y py] kt pt] (.Tuple [a, b] k2 pt2) pos) (TSx c (gPar i j fa fb)) :=
  psW (ps_par hc hN hi hj hij hx hy (pa_cons ha (pa_cons hb pa_nil h2) h1) hw hs) fun D σ H ⟨M, p, ow, ρ, S, R, h⟩ => by
    refine ⟨M, p, ow, ρ, S, R, (RS.thenM (k := .f) h).mono fun v H1 ⟨d, S1, M1, p1, e1, m1, R1, t1, h1⟩ => ⟨M1, p1, ow, ρ, S1, R1, (RS.thenM (k := .f) h1).mono fun w H2 ⟨e, S2, M2, p2, e2, m2, R2, t2, h2⟩ => ⟨v, w, rfl, ?_⟩⟩⟩
    obtain ⟨ow1, P1⟩ := FR.put (i := i) R R1 t1
    obtain ⟨ow2, P2⟩ := FR.put (i := j) P1 (P1.step e2 m2 R2.sto R2.dom) t2
    exact h2 _ _ _ _ _ P2
def gPar3 (i j l : Nat) (fa fb fd : Fx) : Gx := fun ρ S => thenG (fa ρ S) ρ fun d S => thenG (fb ρ S) ρ fun e S => thenG (fd ρ S) ρ fun u S => .nx (((ρ.set i (putSl d)).set j (putSl e)).set l (putSl u)) S
theorem qPar3 {l : Nat} {z : Str} {d : Expr} {fd : Fx} {px py pz pt : Pos} {kt k2 pt2} (hc : X.calm = true) (hN : X.N.Nodup) (ha : PE X a (TX .f c fa)) (hb : PE X b (TX .f c fb)) (hd : PE X d (TX .f c fd)) (hi : X.N[i]? = some x := by rfl) (hj : X.N[j]? = some y := by rfl) (hl : X.N[l]? = some z := by rfl) (hij : i ≠ j := by decide) (hil : i ≠ l := by decide) (hjl : j ≠ l := by decide)
    (hx : X.env.scope.names.lookup x = some .local := by rfl) (hy : X.env.scope.names.lookup y = some .local := by rfl) (hz : X.env.scope.names.lookup z = some .local := by rfl)
    (hw : swappedStores [.Tuple [.Name x px, .Name y py, .Name z pz] kt pt] (.Tuple [a, b, d] k2 pt2) X.env = pure (some [x, y, z]) := by rfl) (hs : swapsWithSole [.Tuple [.Name x px, .Name y py, .Name z pz] kt pt] (.Tuple [a, b, d] k2 pt2) pos.line X.env = pure false := by rfl)
    (h1 : starEach [a, b, d] X.env = (false, eval a X.env) :: starEach [b, d] X.env := by rfl) (h2 : starEach [b, d] X.env = (false, eval b X.env) :: starEach [d] X.env := by rfl) (h3 : starEach [d] X.env = (false, eval d X.env) :: starEach [] X.env := by rfl) :
    PS X (.Assign [.Tuple [.Name x px, .Name y py, .Name z pz] kt pt] (.Tuple [a, b, d] k2 pt2) pos) (TSx c (gPar3 i j l fa fb fd)) :=
  psW (ps_par3 hc hN hi hj hl hij hil hjl hx hy hz (pa_cons ha (pa_cons hb (pa_cons hd pa_nil h3) h2) h1) hw hs) fun D σ H ⟨M, p, ow, ρ, S, R, h⟩ => by
    refine ⟨M, p, ow, ρ, S, R, (RS.thenM (k := .f) h).mono fun v H1 ⟨d, S1, M1, p1, e1, m1, R1, t1, h1⟩ => ⟨M1, p1, ow, ρ, S1, R1, (RS.thenM (k := .f) h1).mono fun w H2 ⟨e, S2, M2, p2, e2, m2, R2, t2, h2⟩ => ⟨M2, p2, ow, ρ, S2, R2, (RS.thenM (k := .f) h2).mono fun u H3 ⟨q, S3, M3, p3, e3, m3, R3, t3, h3⟩ => ⟨v, w, u, rfl, ?_⟩⟩⟩⟩
    obtain ⟨ow1, P1⟩ := FR.put (i := i) R R1 t1
    obtain ⟨ow2, P2⟩ := FR.put (i := j) P1 (P1.step e2 m2 R2.sto R2.dom) t2
    obtain ⟨ow3, P3⟩ := FR.put (i := l) P2 (P2.step e3 m3 R3.sto R3.dom) t3
    exact h3 _ _ _ _ _ P3
/-- two at once, each newly made (true) or kept (false) -/
def putB (k : Bool) (d : D) : Sl := if k then putSl d else .val d
def kdF : Bool → Kd
  | true => .f
  | false => .r
def gParK (ka kb : Bool) (i j : Nat) (fa fb : Fx) : Gx := fun ρ S => thenG (fa ρ S) ρ fun d S => thenG (fb ρ S) ρ fun e S => .nx ((ρ.set i (putB ka d)).set j (putB kb e)) S
theorem FR.putB {M M1 : Addr → Prop} {p p1 : List Addr} {H H1 : Hp} {S S1 : Sto} {ow : Nat → Option Addr} {σ : St} {ρ : Rho} {d : D} {v : V} {i : Nat} {k : Bool} (R0 : FR c M p H ow σ ρ S) (R : FR c M1 p1 H1 ow σ ρ S1) (t : Came (kdF k) c.K c.mg H M1 p1 H1 d v) : ∃ ow', FR c M1 p1 H1 ow' (σ.set i (some v)) (ρ.set i (putB k d)) S1 := by
  cases k with
  | true => exact FR.put (i := i) R0 R t
  | false => exact ⟨_, R.setVal t⟩
theorem qParK (ka kb : Bool) {px py pt : Pos} {kt k2 pt2} (hc : X.calm = true) (hN : X.N.Nodup) (ha : PE X a (TX (kdF ka) c fa)) (hb : PE X b (TX (kdF kb) c fb)) (hi : X.N[i]? = some x := by rfl) (hj : X.N[j]? = some y := by rfl) (hij : i ≠ j := by decide)
    (hx : X.env.scope.names.lookup x = some .local := by rfl) (hy : X.env.scope.names.lookup y = some .local := by rfl)
    (hw : swappedStores [.Tuple [.Name x px, .Name y py] kt pt] (.Tuple [a, b] k2 pt2) X.env = pure (some [x, y]) := by rfl) (hs : swapsWithSole [.Tuple [.Name x px, .Name y py] kt pt] (.Tuple [a, b] k2 pt2) pos.line X.env = pure false := by rfl)
    (h1 : starEach [a, b] X.env = (false, eval a X.env) :: starEach [b] X.env := by rfl) (h2 : starEach [b] X.env = (false, eval b X.env) :: starEach [] X.env := by rfl) :
    PS X (.Assign [.Tuple [.Name x px, .Name y py] kt pt] (.Tuple [a, b] k2 pt2) pos) (TSx c (gParK ka kb i j fa fb)) :=
  psW (ps_par hc hN hi hj hij hx hy (pa_cons ha (pa_cons hb pa_nil h2) h1) hw hs) fun D σ H ⟨M, p, ow, ρ, S, R, h⟩ => by
    refine ⟨M, p, ow, ρ, S, R, (RS.thenM (k := kdF ka) h).mono fun v H1 ⟨d, S1, M1, p1, e1, m1, R1, t1, h1⟩ => ⟨M1, p1, ow, ρ, S1, R1, (RS.thenM (k := kdF kb) h1).mono fun w H2 ⟨e, S2, M2, p2, e2, m2, R2, t2, h2⟩ => ⟨v, w, rfl, ?_⟩⟩⟩
    obtain ⟨ow1, P1⟩ := FR.putB (i := i) R R1 t1
    obtain ⟨ow2, P2⟩ := FR.putB (i := j) P1 (P1.step e2 m2 R2.sto R2.dom) t2
    exact h2 _ _ _ _ _ P2
/-! ### x.append(e) -/
def gApp (i : Nat) (f : Fx) : Gx := fun ρ S => match ρ[i]? with
  | some (.own ds) => thenG (f ρ S) ρ fun d S => if ds.length < 1000000 then .nx (ρ.set i (.own (ds ++ [d]))) S else .stuck
  | _ => .stuck
theorem qApp {apos cpos px : Pos} (he : PE X e (TX .r c f)) (hN : X.N[i]? = some x := by rfl) (hv : Vis X.env.scope x := by first | exact Or.inl rfl | exact Or.inr (Or.inl rfl) | exact Or.inr (Or.inr rfl)) (hd : (x == ("__debug__" : Str)) = false := by decide)
    (hcd : (x == ("__classdict__" : Str)) = false := by decide)
    (hbase : attributeBase (.Name x px) "append" X.env (eval (.Name x px) X.env) = eval (.Name x px) X.env := by rfl)
    (hfew : ((backTo cpos (starEach [e] X.env)).all (fun x => !x.1) && (backToKw cpos (keywordEach [] X.env)).all (fun x => x.1.isSome)
      && decide (([e] : List Expr).length + ([] : List Keyword).length + (if ([] : List Keyword).isEmpty then 0 else 1) < 30)) = true := by rfl)
    (hline : (apos.endLine == cpos.line) = true := by rfl) (hs : starEach [e] X.env = (false, eval e X.env) :: starEach [] X.env := by rfl) (hplain : (backTo cpos (starEach ([] : List Expr) X.env)).any (·.1) = false := by rfl)
    (hsw : swapsWith (.Call (.Attribute (.Name x px) "append" apos) [e] [] cpos) none pos.line X.env = pure false := by rfl) :
    PS X (.Expr (.Call (.Attribute (.Name x px) "append" apos) [e] [] cpos) pos) (TSx c (gApp i f)) :=
  psW (ps_expr (pe_bm F.plainAttrs_list F.slot_list_append F.type_list_append (mt_append (X := X)) (pe_var hN hv hd hcd) (pa_cons he pa_nil hs) hbase hfew hline hs hplain) hsw) fun D σ H ⟨M, p, ow, ρ, S, R, h⟩ => by
    unfold gApp at h
    cases z : ρ[i]? with
    | none => rw [z] at h; exact h.elim
    | some s =>
      rw [z] at h
      cases s with
      | own ds =>
        obtain ⟨a, vs, h1, h2, h3, h4, _⟩ := R.own_at z
        refine ⟨.ref a, h1, .inl ⟨rfl, vs, SqL.of h2⟩, M, p, ow, ρ, S, R, (RS.then (k := .r) h).mono fun v H1 ⟨d, S1, M1, p1, e1, R1, t1, q1⟩ => ?_⟩
        split at q1
        · rename_i hl
          obtain ⟨a', vs', g1, g2, g3, g4, g5⟩ := R1.own_at z
          have ea : a' = a := by
            rw [h1] at g1
            exact (V.ref.inj (Option.some.inj (Option.some.inj g1))).symm
          subst ea
          refine ⟨a', vs', v, rfl, rfl, g2, millT (by rw [g4.length]; exact Nat.le_of_lt hl), ?_⟩
          exact q1 _ _ _ _ _ (g5 _ _ (RDs.append g4 (RDs.cons t1 RDs.nil)))
        · exact q1.elim
      | _ => exact h.elim
end
end QL

set_option Elab.async false
set_option linter.all false
set_option maxRecDepth 100000
/-! QM: what is asked of values: ==, in, items, slices, len, tuple, list, int, isinstance -/
namespace QL
open PySem PySem.Spec L2
open PyProof.Rows hiding St

/-- a list of the store by its content -/
def D.res (S : Sto) : D → D
  | .ref n => match S[n]? with
    | some (.lst xs) => .lst xs
    | some (.fl xs) => .frz xs
    | _ => .ref n
  | d => d
section
variable {K : PySem.W.Frag} {mg : Str → Option Value} {M : Addr → Prop} {p : List Addr} {H : Hp} {S : Sto} {d : D} {v : V} {ds : List D}
theorem res_cases (R : SR K mg M p H S) (t : TV K mg M p H d v) : TV K mg M p H (d.res S) v ∨ ∃ xs a vs, d.res S = .lst xs ∧ v = .ref a ∧ H a = some (.lst vs) ∧ RDs K mg M p H xs vs := by
  cases d with
  | ref n =>
    cases e : S[n]? with
    | none =>
      have er : D.res S (.ref n) = .ref n := by simp only [D.res, e]
      rw [er]; exact .inl t
    | some o =>
      cases o with
      | lst xs =>
        have er : D.res S (.ref n) = .lst xs := by simp only [D.res, e]
        rw [er]
        obtain ⟨a, h1, rfl⟩ := t
        obtain ⟨a', h2, vs, h3, h4⟩ := R.at_ n _ e
        rw [h1] at h2; cases h2
        exact .inr ⟨xs, a, vs, rfl, rfl, h3, h4⟩
      | fl xs =>
        have er : D.res S (.ref n) = .frz xs := by simp only [D.res, e]
        rw [er]
        obtain ⟨a, h1, rfl⟩ := t
        obtain ⟨a', h2, vs, ⟨q, h3⟩, h4⟩ := R.at_ n _ e
        rw [h1] at h2; cases h2
        exact .inl ⟨a, vs, rfl, .inl ⟨q, h3⟩, h4⟩
      | _ =>
        have er : D.res S (.ref n) = .ref n := by simp only [D.res, e]
        rw [er]; exact .inl t
  | _ => exact .inl t
theorem res_lst (R : SR K mg M p H S) (t : TV K mg M p H d v) (e : d.res S = .lst ds) : ∃ a vs, v = .ref a ∧ H a = some (.lst vs) ∧ RDs K mg M p H ds vs := by
  rcases res_cases R t with q | ⟨xs, a, vs, h1, h2, h3, h4⟩
  · rw [e] at q
    obtain ⟨a, vs, h1, h2, _, h3⟩ := q
    exact ⟨a, vs, h1, h2, h3⟩
  · rw [e] at h1; cases h1
    exact ⟨a, vs, h2, h3, h4⟩
theorem res_tup {z : Bool} (R : SR K mg M p H S) (t : TV K mg M p H d v) (e : d.res S = .tup z ds) : ∃ a vs, v = .ref a ∧ TQ z K H a vs ∧ RDs K mg M p H ds vs := by
  rcases res_cases R t with q | ⟨xs, a, vs, h1, _⟩
  · rw [e] at q; exact q
  · rw [e] at h1; cases h1
theorem res_frz (R : SR K mg M p H S) (t : TV K mg M p H d v) (e : d.res S = .frz ds) : ∃ a vs, v = .ref a ∧ SqZ K H a vs ∧ RDs K mg M p H ds vs := by
  rcases res_cases R t with q | ⟨xs, a, vs, h1, _⟩
  · rw [e] at q; exact q
  · rw [e] at h1; cases h1
theorem res_seq (R : SR K mg M p H S) (t : TV K mg M p H d v) (e : (d.res S).items = some ds) : ∃ a vs, v = .ref a ∧ RDs K mg M p H ds vs ∧ (SqL K H a vs ∨ SqT K H a vs) := by
  cases z : d.res S with
  | tup y xs => rw [z] at e; cases e; obtain ⟨a, vs, h1, h2, h3⟩ := res_tup R t z; exact ⟨a, vs, h1, h3, .inr h2.sq⟩
  | lst xs => rw [z] at e; cases e; obtain ⟨a, vs, h1, h2, h3⟩ := res_lst R t z; exact ⟨a, vs, h1, h3, .inl (SqL.of h2)⟩
  | frz xs => rw [z] at e; cases e; obtain ⟨a, vs, h1, h2, h3⟩ := res_frz R t z; exact ⟨a, vs, h1, h3, .inl h2.sq⟩
  | _ => rw [z] at e; cases e
theorem res_sc (R : SR K mg M p H S) (t : TV K mg M p H d v) (u : V) (e : (d.res S).sc = some u) : v = u := by
  rcases res_cases R t with q | ⟨xs, a, vs, h1, _⟩
  · generalize d.res S = y at e q
    cases y <;> first | (cases e; exact q) | cases e
  · rw [h1] at e; cases e
theorem res_dp (R : SR K mg M p H S) (t : TV K mg M p H d v) (l : (d.res S).py.canLay0 = true) : Dp K H v (d.res S).py := by
  rcases res_cases R t with q | ⟨xs, a, vs, h1, h2, h3, h4⟩
  · exact q.dp l
  · rw [h1] at l ⊢
    unfold D.py PyData.canLay0 at l
    unfold D.py
    subst h2
    exact .lst (SqL.of h3) (RDs.dp xs vs h4 l)
end

/-! ### operators that look into the store -/
def Op2OkS (k : Kd) (K : PySem.W.Frag) (mg : Str → Option Value) (r : R2) (g : Sto → D → D → Option D) : Prop :=
  ∀ M p H S d e v w x Q, SR K mg M p H S → (∀ a, M a → H a ≠ none) → TV K mg M p H d v → TV K mg M p H e w → g S d e = some x → Ans k K mg M p H S x Q → r v w H Q
def f2S (g : Sto → D → D → Option D) (fa fb : Fx) : Fx := fun ρ S => (fa ρ S).bind fun d S => (fb ρ S).bind fun e S => lift (g S d e) S
theorem Op2OkS.t {K : PySem.W.Frag} {mg : Str → Option Value} {r : R2} {g : Sto → D → D → Option D} (h : Op2OkS .f K mg r g) : Op2OkS .t K mg r g := fun M p H S d e v w x Q R hd tv tw hg a => h M p H S d e v w x Q R hd tv tw hg fun y M' p' H' e' m s d' cm => a y M' p' H' e' m s d' (cm.t_of s.inM)
section
variable {X : Cx} {W : WB} {c : Fc} {x : Str} {pos : Pos} {a b : Expr} {fa fb : Fx} {k : Kd} {g : Sto → D → D → Option D}
theorem twoS {r : R2} (hr : Op2OkS k c.K c.mg r g) (σ : St) (H : Hp) (Q : VK) (h : TX k c (f2S g fa fb) σ H Q) : TX .t c fa σ H fun v H1 => TX .t c fb σ H1 fun w H2 => r v w H2 Q := by
  obtain ⟨M, p, ow, ρ, S, R, h⟩ := h
  refine ⟨M, p, ow, ρ, S, R, (RX.bind (k' := .t) h).mono fun v H1 ⟨d, S1, M1, p1, e1, R1, t1, h1⟩ => ⟨M1, p1, ow, ρ, S1, R1, (RX.bind (k' := .t) h1).mono fun w H2 ⟨e, S2, M2, p2, e2, R2, t2, h2⟩ => ?_⟩⟩
  cases z : g S2 d e with
  | none => rw [z] at h2; exact h2.elim
  | some x => rw [z] at h2; exact hr M2 p2 H2 S2 d e v w x Q R2.sto R2.dom (TV.ext e2 R1.sto.muts R1.sto.inM d v t1) t2 z (Ans.of R2 h2)
theorem qCmpS {op : CmpOp} {r : R2} (ho : OpR X (compareOp op) r) (hr : Op2OkS k c.K c.mg r g) (ha : PE X a (TX .t c fa)) (hb : PE X b (TX .t c fb)) (hm : behindInMarks op b = false) : PE X (.Compare a [op] [b] pos) (TX k c (f2S g fa fb)) := peW (pe_cmpR ho ha hb hm) (twoS hr)
theorem qCmpTS {op : CmpOp} {r : R2} (ho : OpR X (compareOp op) r) (hr : Op2OkS .t c.K c.mg r g) (ha : PE X a (TX .t c fa)) (hb : PE X b (TX .t c fb)) (hm : behindInMarks op b = false) : PT X (.Compare a [op] [b] pos) (TB c (f2S g fa fb)) := by
  refine ptW (pt_cmpR ho ha hb hm) fun σ H Q ⟨M, p, ow, ρ, S, R, h⟩ => ?_
  refine twoS (k := .t) (g := g) hr σ H _ ⟨M, p, ow, ρ, S, R, ?_⟩
  cases z : f2S g fa fb ρ S with
  | stuck => rw [z] at h; exact h
  | err n fs S' => rw [z] at h; exact h
  | ok d S' =>
    rw [z] at h
    cases d with
    | bl b => exact fun v M' p' H' e m R t => ⟨b, t, h M' p' H' e m R⟩
    | _ => exact h.elim
end

/-! ### == and != -/
section
variable {K : PySem.W.Frag} {mg : Str → Option Value} {H : Hp}
theorem eq_core2 {d e : D} {v w : V} {b : Bool} {R : Prop} (sv : ∀ u, d.sc = some u → v = u) (sw : ∀ u, e.sc = some u → w = u) (pv : d.py.canLay0 = true → Dp K H v d.py) (pw : e.py.canLay0 = true → Dp K H w e.py) (h : dEqB d e = some b)
    (h1 : scal v w = true → decide (v = w) = b → R) (h2 : Dp K H v d.py → Dp K H w e.py → SeqAt.shaped d.py = true → SeqAt.shaped e.py = true → PyData.eqv d.py e.py = b → R) : R := by
  have gen : (if SeqAt.shaped d.py = true ∧ SeqAt.shaped e.py = true then some (PyData.eqv d.py e.py) else none) = some b → R := fun h => by
    split at h
    · rename_i z
      exact h2 (pv (shaped_lay z.1)) (pw (shaped_lay z.2)) z.1 z.2 (Option.some.inj h)
    · cases h
  cases d <;> cases e <;> first
    | exact gen h
    | (cases sv _ rfl; cases sw _ rfl; refine h1 rfl ?_; have h' := Option.some.inj h; subst h'; first | rfl | exact decV V.int (fun _ _ => V.int.inj) _ _ | exact decV V.str (fun _ _ => V.str.inj) _ _ | exact decV V.bl (fun _ _ => V.bl.inj) _ _ | (apply decide_eq_false; intro z; cases z) | simp)
end
def dEqS (S : Sto) (d e : D) : Option D := (dEqB (d.res S) (e.res S)).map D.bl
def dNeS (S : Sto) (d e : D) : Option D := (dEqB (d.res S) (e.res S)).map fun b => .bl !b
section
variable {K : PySem.W.Frag} {mg : Str → Option Value}
theorem ok_eqS : Op2OkS .f K mg (rEqA K) dEqS := by
  intro M p H S d e v w x Q R hd tv tw hg h
  unfold dEqS at hg
  cases z : dEqB (d.res S) (e.res S) with
  | none => rw [z] at hg; cases hg
  | some b =>
    rw [z] at hg; cases hg
    have q := h.bl R hd
    refine eq_core2 (res_sc R tv) (res_sc R tw) (res_dp R tv) (res_dp R tw) z (fun hs e1 => .inl ⟨hs, ?_⟩) fun d1 d2 s1 s2 e1 => .inr ⟨_, _, d1, d2, s1, s2, ?_⟩
    · rw [e1]; exact q
    · rw [e1]; exact q
theorem ok_neS : Op2OkS .f K mg (rNeA K) dNeS := by
  intro M p H S d e v w x Q R hd tv tw hg h
  unfold dNeS at hg
  cases z : dEqB (d.res S) (e.res S) with
  | none => rw [z] at hg; cases hg
  | some b =>
    rw [z] at hg; cases hg
    have q := h.bl R hd
    refine eq_core2 (res_sc R tv) (res_sc R tw) (res_dp R tv) (res_dp R tw) z (fun hs e1 => .inl ⟨hs, ?_⟩) fun d1 d2 s1 s2 e1 => .inr ⟨_, _, d1, d2, s1, s2, ?_⟩
    · rw [e1]; exact q
    · rw [e1]; exact q
end

/-! ### items by number -/
def dIx (S : Sto) (d e : D) : Option D := match e with
  | .int i => (match d.res S with
    | .str z => if z.length ≤ 1000000 then (atI z.cps.toList i).map fun c => .str ⟨#[c]⟩ else none
    | y => y.items.bind fun ds => atI ds i)
  | _ => none
section
variable {K : PySem.W.Frag} {mg : Str → Option Value} {M : Addr → Prop} {p : List Addr} {H : Hp} {S : Sto}
theorem RDs.atI {ds : List D} {vs : List V} {i : Int} {d : D} (r : RDs K mg M p H ds vs) (h : L2.atI ds i = some d) : ∃ v, L2.atI vs i = some v ∧ RD K mg M p H d v := by
  unfold L2.atI at h ⊢
  rw [r.length]
  cases z : ixN ds.length i with
  | none => rw [z] at h; cases h
  | some j =>
    rw [z] at h
    obtain ⟨v, h1, h2⟩ := r.get (i := j) h
    exact ⟨v, h1, h2⟩
theorem ok_ix : Op2OkS .r K mg (rIx K) dIx := by
  intro M p H S d e v w x Q R hd tv tw hg h
  unfold dIx at hg
  cases e with
  | int i =>
    cases tw
    have seq : ((d.res S).items.bind fun ds => L2.atI ds i) = some x → rIx K v (.int i) H Q := fun hx => by
      cases z : (d.res S).items with
      | none => rw [z] at hx; cases hx
      | some ds =>
        rw [z] at hx
        obtain ⟨a, vs, rfl, r, q⟩ := res_seq R tv z
        obtain ⟨u, h1, h2⟩ := r.atI (show L2.atI ds i = some x from hx)
        rcases q with q | q
        · exact .inl ⟨a, vs, i, u, rfl, rfl, q, h1, h.rd R hd h2⟩
        · exact .inr (.inl ⟨a, vs, i, u, rfl, rfl, q, h1, h.rd R hd h2⟩)
    simp only at hg
    split at hg
    · rename_i z hz
      have ev := res_sc R tv (.str z) (by rw [hz]; rfl)
      subst ev
      split at hg
      · rename_i hl
        cases y : L2.atI z.cps.toList i with
        | none => rw [y] at hg; cases hg
        | some k =>
          rw [y] at hg; cases hg
          exact .inr (.inr ⟨z, i, k, rfl, rfl, mill hl, y, h.rd R hd (by unfold RD; rfl)⟩)
      · cases hg
    · exact seq hg
  | _ => cases hg
end
section
variable {X : Cx} {W : WB} {c : Fc} {pos p2 : Pos} {a b e : Expr} {fa fb f fl fh : Fx} {lo hi : Option Expr}
theorem qIx (cc : Cc X.K X.mg W c) (ha : PE X a (TX .t c fa)) (hb : PE X b (TX .t c fb)) (hs : PlainIx b := by intro _ _; rfl) : PE X (.Subscript a b pos) (TX .r c (f2S dIx fa fb)) :=
  peW (pe_ix (by rw [cc.K]; exact ix_seq : IxR X (rIx c.K)) ha hb hs) (twoS ok_ix)
/-! ### slices -/
def TOx (c : Fc) (f : Fx) : TO := fun σ H Q => ∃ M p ow ρ S, FR c M p H ow σ ρ S ∧ RX .t c M p H ow σ ρ (f ρ S) fun v H1 => (v = .non ∧ Q none H1) ∨ ∃ i, v = .int i ∧ Q (some i) H1
def fNo : Fx := fC .non
def fI (f : Fx) : Fx := fun ρ S => (f ρ S).bind fun d S => match d with
  | .int i => .ok (.int i) S
  | _ => .stuck
theorem poW {t t' : TO} (h : PO X lo t) (w : ∀ σ H Q, t' σ H Q → t σ H Q) : PO X lo t' := ⟨fun pins s σ H Q J q => h.run pins s σ H Q J (w σ H Q q)⟩
theorem qPoN : PO X none (TOx c fNo) := poW po_none fun σ H Q ⟨M, p, ow, ρ, S, R, h⟩ => by
  rcases h .non M p H .refl (fun _ m => m) R rfl with ⟨_, q⟩ | ⟨i, z, _⟩
  · exact q
  · cases z
theorem qPoS (h : PE X e (TX .t c f)) : PO X (some e) (TOx c (fI f)) := poW (po_some h) fun σ H Q ⟨M, p, ow, ρ, S, R, h⟩ => by
  unfold fI at h
  refine ⟨M, p, ow, ρ, S, R, (RX.bind (k' := .t) h).mono fun v H1 ⟨d, S1, M1, p1, e1, R1, t1, h1⟩ => ?_⟩
  cases d with
  | int i =>
    cases t1
    rcases h1 (.int i) M1 p1 H1 .refl (fun _ m => m) R1 rfl with ⟨z, _⟩ | ⟨j, z, q⟩
    · cases z
    · cases z; exact ⟨i, rfl, q⟩
  | _ => exact h1.elim
def cutD (xs : List D) (lo hi : Option Int) : List D := (xs.drop (HT.sIx xs.length 0 lo)).take (HT.sIx xs.length xs.length hi - HT.sIx xs.length 0 lo)
def oP : D → Option (Option Int)
  | .non => some none
  | .int i => some (some i)
  | _ => none
def dSl (S : Sto) (d : D) (lo hi : Option Int) : Option D := match d.res S with
  | .lst ds => some (.lst (cutD ds lo hi))
  | .frz ds => some (.lst (cutD ds lo hi))
  | .tup z ds => some (.tup z (cutD ds lo hi))
  | .str z => if z.length ≤ 1000000 then some (.str (cutS z lo hi)) else none
  | _ => none
def fSl (f fl fh : Fx) : Fx := fun ρ S => (f ρ S).bind fun d S => (fl ρ S).bind fun l S => match oP l with
  | some lo => (fh ρ S).bind fun h S => lift ((oP h).bind (dSl S d lo)) S
  | none => .stuck
def rSlA (K : PySem.W.Frag) : V → Option Int → Option Int → Hp → VK → Prop := fun x lo hi H Q => rSlL K x lo hi H Q ∨ (rSlZ K x lo hi H Q ∨ rSlS x lo hi H Q)
theorem sl_all : SlR X (rSlA X.K) := SlR.or sl_list (SlR.or sl_tupZ sl_str)
theorem RDs.cut {K : PySem.W.Frag} {mg : Str → Option Value} {M : Addr → Prop} {p : List Addr} {H : Hp} {ds : List D} {vs : List V} (r : RDs K mg M p H ds vs) (lo hi : Option Int) : RDs K mg M p H (cutD ds lo hi) (cutV vs lo hi) := by
  unfold cutD cutV
  rw [r.length]
  exact RDs.take _ (RDs.drop _ r)
theorem cut_whole {ds : List D} {lo hi : Option Int} (h : WholeCut ds.length lo hi) : cutD ds lo hi = ds := by
  unfold cutD
  rw [h.1, h.2, List.drop_zero, Nat.sub_zero, List.take_length]
theorem ok_sl {K : PySem.W.Frag} {mg : Str → Option Value} {M : Addr → Prop} {p : List Addr} {H : Hp} {S : Sto} {d x : D} {v : V} {lo hi : Option Int} {Q : VK} (R : SR K mg M p H S) (hd : ∀ a, M a → H a ≠ none) (tv : TV K mg M p H d v) (hg : dSl S d lo hi = some x) (h : Ans .f K mg M p H S x Q) : rSlA K v lo hi H Q := by
  unfold dSl at hg
  split at hg
  · rename_i ds z
    cases hg
    obtain ⟨a, vs, rfl, h1, h2⟩ := res_lst R tv z
    exact .inl ⟨a, vs, rfl, SqL.of h1, fun q hq => h.lst R hd (h2.cut lo hi) hq⟩
  · rename_i ds z
    cases hg
    obtain ⟨a, vs, rfl, h1, h2⟩ := res_frz R tv z
    exact .inl ⟨a, vs, rfl, h1.sq, fun q hq => h.lst R hd (h2.cut lo hi) hq⟩
  · rename_i b ds z
    cases hg
    obtain ⟨a, vs, rfl, h1, h2⟩ := res_tup R tv z
    refine .inr (.inl ⟨a, vs, rfl, h1.sq, fun w => ?_, fun _ => h.tup R hd (h2.cut lo hi)⟩)
    rw [h2.length] at w
    rw [cut_whole w] at h
    exact h.tupOf R hd h1 h2
  · rename_i z hz
    split at hg
    · rename_i hl
      cases hg
      have ev := res_sc R tv (.str z) (by rw [hz]; rfl)
      subst ev
      exact .inr (.inr ⟨z, rfl, mill hl, h.str R hd⟩)
    · cases hg
  · cases hg
theorem qSl (cc : Cc X.K X.mg W c) (ha : PE X a (TX .t c f)) (hl : PO X lo (TOx c fl)) (hh : PO X hi (TOx c fh)) : PE X (.Subscript a (.Slice lo hi none p2) pos) (TX .f c (fSl f fl fh)) :=
  peW (pe_slice (by rw [cc.K]; exact sl_all : SlR X (rSlA c.K)) ha hl hh) fun σ H Q ⟨M, p, ow, ρ, S, R, h⟩ => by
    unfold fSl at h
    refine ⟨M, p, ow, ρ, S, R, (RX.bind (k' := .t) h).mono fun v H1 ⟨d, S1, M1, p1, e1, R1, t1, h1⟩ => ⟨M1, p1, ow, ρ, S1, R1, (RX.bind (k' := .t) h1).mono fun l H2 ⟨dl, S2, M2, p2, e2, R2, t2, h2⟩ => ?_⟩⟩
    have t1' := TV.ext e2 R1.sto.muts R1.sto.inM d v t1
    have step : ∀ o : Option Int, oP dl = some o → TOx c fh σ H2 fun u H3 => rSlA c.K v o u H3 Q := fun o eo => by
      simp only [eo] at h2
      refine ⟨M2, p2, ow, ρ, S2, R2, (RX.bind (k' := .t) h2).mono fun u H3 ⟨dh, S3, M3, p3, e3, R3, t3, h3⟩ => ?_⟩
      have t1'' := TV.ext e3 R2.sto.muts R2.sto.inM d v t1'
      have fin : ∀ o2 : Option Int, oP dh = some o2 → rSlA c.K v o o2 H3 Q := fun o2 eo2 => by
        rw [eo2] at h3
        cases z : dSl S3 d o o2 with
        | none => simp only [Option.bind_some, z] at h3; exact h3.elim
        | some x => simp only [Option.bind_some, z] at h3; exact ok_sl R3.sto R3.dom t1'' z (Ans.of R3 h3)
      cases dh with
      | non => cases t3; exact .inl ⟨rfl, fin _ rfl⟩
      | int i => cases t3; exact .inr ⟨i, rfl, fin _ rfl⟩
      | _ => exact h3.elim
    cases dl with
    | non => cases t2; exact .inl ⟨rfl, step _ rfl⟩
    | int i => cases t2; exact .inr ⟨i, rfl, step _ rfl⟩
    | _ => exact h2.elim
/-- t[::-1] -/
def dRev (S : Sto) (d : D) : Option D := match d.res S with
  | .tup _ ds => some (.tup true ds.reverse)
  | _ => none
def f1S (g : Sto → D → Option D) (fa : Fx) : Fx := fun ρ S => (fa ρ S).bind fun d S => lift (g S d) S
theorem qRev {kk : Nat} {p1 p2 p3 : Pos} (cc : Cc X.K X.mg W c) (ha : PE X a (TX .t c f)) : PE X (.Subscript a (backSlice kk p1 p2 p3) pos) (TX .f c (f1S dRev f)) :=
  peW (pe_revT ha) fun σ H Q ⟨M, p, ow, ρ, S, R, h⟩ => by
    unfold f1S at h
    refine ⟨M, p, ow, ρ, S, R, (RX.bind (k' := .t) h).mono fun v H1 ⟨d, S1, M1, p1, e1, R1, t1, h1⟩ => ?_⟩
    cases z : d.res S1 with
    | tup b ds =>
      simp only [dRev, z] at h1
      obtain ⟨a, vs, rfl, h2, h3⟩ := res_tup R1.sto t1 z
      refine ⟨a, vs, rfl, ?_, (Ans.of R1 h1).tup R1.sto R1.dom h3.rev⟩
      rw [← cc.K]
      exact h2.sq
    | _ => simp only [dRev, z] at h1; exact h1.elim
end
/-! ### calls of built-ins -/
def dLen (S : Sto) : List D → Option D
  | [d] => (match d.res S with
    | .str z => if z.length ≤ 1000000 then some (.int z.length) else none
    | y => y.items.map fun ds => .int ds.length)
  | _ => none
def dTup (S : Sto) : List D → Option D
  | [d] => (match d.res S with
    | .tup z ds => some (.tup z ds)
    | .lst ds => some (.tup true ds)
    | .frz ds => some (.tup true ds)
    | _ => none)
  | _ => none
def dList (S : Sto) : List D → Option D
  | [d] => (d.res S).items.map fun ds => .lst ds
  | _ => none
def dInt (_ : Sto) : List D → Option D
  | [.int i] => some (.int i)
  | [.bl b] => some (.int (if b then 1 else 0))
  | _ => none
def rLenA (K : PySem.W.Frag) : List V → Hp → VK → Prop := fun xs H Q => (∃ p ys, xs = [.ref p] ∧ (SqL K H p ys ∨ SqT K H p ys) ∧ Q (.int ys.length) H) ∨ ∃ z, xs = [.str z] ∧ z.length ≤ sizeLine ∧ Q (.int z.length) H
theorem call_lenA {X : Cx} : CallR X (.builtin "len") (rLenA X.K) := CallR.or call_len_seq call_len_str
section
variable {K : PySem.W.Frag} {mg : Str → Option Value}
theorem hold_one {M : Addr → Prop} {p : List Addr} {H : Hp} {d : D} {vs : List V} (h : Holds false K mg M p H [d] vs) : ∃ v, vs = [v] ∧ TV K mg M p H d v := by
  unfold Holds at h
  obtain ⟨v, r, rfl, h1, h2⟩ := h
  unfold Holds at h2
  subst h2
  exact ⟨v, rfl, h1⟩
theorem hold_two {M : Addr → Prop} {p : List Addr} {H : Hp} {d e : D} {vs : List V} (h : Holds false K mg M p H [d, e] vs) : ∃ v w, vs = [v, w] ∧ TV K mg M p H d v ∧ TV K mg M p H e w := by
  unfold Holds at h
  obtain ⟨v, r, rfl, h1, h2⟩ := h
  obtain ⟨w, rfl, h3⟩ := hold_one h2
  exact ⟨v, w, rfl, h1, h3⟩
theorem ok_len : CallOk .f K mg (rLenA K) dLen := by
  intro M p H S ds vs x Q R hd t hg h
  unfold dLen at hg
  split at hg
  · rename_i d
    obtain ⟨v, rfl, tv⟩ := hold_one t
    have seq : ((d.res S).items.map fun ds => D.int ds.length) = some x → rLenA K [v] H Q := fun hx => by
      cases z : (d.res S).items with
      | none => rw [z] at hx; cases hx
      | some ds =>
        rw [z] at hx; cases hx
        obtain ⟨a, vs, rfl, r, q⟩ := res_seq R tv z
        refine .inl ⟨a, vs, rfl, q, ?_⟩
        rw [r.length]
        exact h.int R hd
    split at hg
    · rename_i z hz
      split at hg
      · rename_i hl
        cases hg
        have ev := res_sc R tv (.str z) (by rw [hz]; rfl)
        subst ev
        exact .inr ⟨z, rfl, mill hl, h.int R hd⟩
      · cases hg
    · exact seq hg
  · cases hg
theorem ok_tuple : CallOk .f K mg (fun xs H Q => ∃ p ys, xs = [.ref p] ∧ ((SqL K H p ys ∧ NewT H ys Q) ∨ (SqT K H p ys ∧ Q (.ref p) H))) dTup := by
  intro M p H S ds vs x Q R hd t hg h
  unfold dTup at hg
  split at hg
  · rename_i d
    obtain ⟨v, rfl, tv⟩ := hold_one t
    split at hg
    · rename_i z ds e
      cases hg
      obtain ⟨a, vs, rfl, h2, h3⟩ := res_tup R tv e
      exact ⟨a, vs, rfl, .inr ⟨h2.sq, h.tupOf R hd h2 h3⟩⟩
    · rename_i ds e
      cases hg
      obtain ⟨a, vs, rfl, h2, h3⟩ := res_lst R tv e
      exact ⟨a, vs, rfl, .inl ⟨SqL.of h2, h.tup R hd h3⟩⟩
    · rename_i ds e
      cases hg
      obtain ⟨a, vs, rfl, h2, h3⟩ := res_frz R tv e
      exact ⟨a, vs, rfl, .inl ⟨h2.sq, h.tup R hd h3⟩⟩
    · cases hg
  · cases hg
theorem ok_list : CallOk .f K mg (fun xs H Q => ∃ p ys, xs = [.ref p] ∧ (SqL K H p ys ∨ SqT K H p ys) ∧ ∀ l, H l = none → Q (.ref l) (upd H l (.lst ys))) dList := by
  intro M p H S ds vs x Q R hd t hg h
  unfold dList at hg
  split at hg
  · rename_i d
    obtain ⟨v, rfl, tv⟩ := hold_one t
    cases z : (d.res S).items with
    | none => rw [z] at hg; cases hg
    | some ds =>
      rw [z] at hg; cases hg
      obtain ⟨a, vs, rfl, r, q⟩ := res_seq R tv z
      exact ⟨a, vs, rfl, q, fun l hl => h.lst R hd r hl⟩
  · cases hg
theorem ok_int : CallOk .f K mg (fun xs H Q => (∃ i, xs = [.int i] ∧ Q (.int i) H) ∨ ∃ k, xs = [.bl k] ∧ Q (.int (if k then 1 else 0)) H) dInt := by
  intro M p H S ds vs x Q R hd t hg h
  unfold dInt at hg
  split at hg
  · cases hg
    obtain ⟨v, rfl, tv⟩ := hold_one t
    cases tv
    exact .inl ⟨_, rfl, h.int R hd⟩
  · cases hg
    obtain ⟨v, rfl, tv⟩ := hold_one t
    cases tv
    exact .inr ⟨_, rfl, h.int R hd⟩
  · cases hg
end
section
variable {X : Cx} {W : WB} {c : Fc} {e : Expr} {es : List Expr} {fr : Ax} {f : Fx} {p pos : Pos}
theorem qLen (cc : Cc X.K X.mg W c) (hm : X.mg "len" = none) (ha : PA X (e :: es) (TAx false c fr)) (hg : Gl X "len" := by rfl) (he : starEach (e :: es) X.env = (false, eval e X.env) :: starEach es X.env := by rfl) (hpl : (backTo pos (starEach es X.env)).any (·.1) = false := by rfl) : PE X (.Call (.Name "len" p) (e :: es) [] pos) (TX .f c (fCall dLen fr)) :=
  qCallB (by rw [cc.K]; exact call_lenA : CallR X (.builtin "len") (rLenA c.K)) ok_len hg hm boot_len ha (by decide) (by decide) he hpl
theorem qTuple (cc : Cc X.K X.mg W c) (hm : X.mg "tuple" = none) (ha : PA X (e :: es) (TAx false c fr)) (hg : Gl X "tuple" := by rfl) (he : starEach (e :: es) X.env = (false, eval e X.env) :: starEach es X.env := by rfl) (hpl : (backTo pos (starEach es X.env)).any (·.1) = false := by rfl) : PE X (.Call (.Name "tuple" p) (e :: es) [] pos) (TX .f c (fCall dTup fr)) :=
  qCallTy (by rw [cc.K]; exact call_tupleZ : CallR X (.type "tuple") (fun xs H Q => ∃ p ys, xs = [.ref p] ∧ ((SqL c.K H p ys ∧ NewT H ys Q) ∨ (SqT c.K H p ys ∧ Q (.ref p) H)))) ok_tuple hg hm boot_tuple ha (by decide) (by decide) he hpl
theorem qList (cc : Cc X.K X.mg W c) (hm : X.mg "list" = none) (ha : PA X (e :: es) (TAx false c fr)) (hg : Gl X "list" := by rfl) (he : starEach (e :: es) X.env = (false, eval e X.env) :: starEach es X.env := by rfl) (hpl : (backTo pos (starEach es X.env)).any (·.1) = false := by rfl) : PE X (.Call (.Name "list" p) (e :: es) [] pos) (TX .f c (fCall dList fr)) :=
  qCallTy (by rw [cc.K]; exact call_list_of : CallR X (.type "list") (fun xs H Q => ∃ p ys, xs = [.ref p] ∧ (SqL c.K H p ys ∨ SqT c.K H p ys) ∧ ∀ l, H l = none → Q (.ref l) (upd H l (.lst ys)))) ok_list hg hm boot_list ha (by decide) (by decide) he hpl
theorem qInt1 (cc : Cc X.K X.mg W c) (hm : X.mg "int" = none) (ha : PA X (e :: es) (TAx false c fr)) (hg : Gl X "int" := by rfl) (he : starEach (e :: es) X.env = (false, eval e X.env) :: starEach es X.env := by rfl) (hpl : (backTo pos (starEach es X.env)).any (·.1) = false := by rfl) : PE X (.Call (.Name "int" p) (e :: es) [] pos) (TX .f c (fCall dInt fr)) :=
  qCallTy call_int1 ok_int hg hm boot_int ha (by decide) (by decide) he hpl
end
/-! ### list(range(..)), tuple(range(..)) -/
def rgB (a b : Int) : Bool := decide (-1000000000 ≤ a ∧ a ≤ 1000000000 ∧ -1000000000 ≤ b ∧ b ≤ 1000000000 ∧ (b - a).toNat ≤ 1000000)
theorem rgB_ok {a b : Int} (h : rgB a b = true) : RgOk a b ∧ (b - a).toNat ≤ 1000000 := by
  have h := of_decide_eq_true h
  exact ⟨⟨by omega, by omega, by omega, by omega, by omega⟩, h.2.2.2.2⟩
theorem rds_rg {K : PySem.W.Frag} {mg : Str → Option Value} {M : Addr → Prop} {p : List Addr} {H : Hp} (a : Int) : ∀ (l : List Nat), RDs K mg M p H (l.map fun (i : Nat) => .int (a + i)) (l.map fun (i : Nat) => V.int (a + i))
  | [] => RDs.nil
  | i :: l => RDs.cons (by unfold RD; rfl) (rds_rg a l)
def dRgL1 : D → Option D
  | .int n => if rgB 0 n then some (.lst (rgD 0 n.toNat)) else none
  | _ => none
def dRgT1 : D → Option D
  | .int n => if rgB 0 n then some (.tup true (rgD 0 n.toNat)) else none
  | _ => none
def dRgL2 : D → D → Option D
  | .int a, .int b => if rgB a b then some (.lst (rgD a (b - a).toNat)) else none
  | _, _ => none
def dRgT2 : D → D → Option D
  | .int a, .int b => if rgB a b then some (.tup true (rgD a (b - a).toNat)) else none
  | _, _ => none
section
variable {K : PySem.W.Frag} {mg : Str → Option Value}
theorem ok_rgL1 : Op1Ok .f K mg (fun x H Q => ∃ n, x = .int n ∧ RgOk 0 n ∧ ∀ q, H q = none → Q (.ref q) (upd H q (.lst (rgV 0 n)))) dRgL1 := by
  intro M p H S d v x Q R hd tv hg h
  unfold dRgL1 at hg
  split at hg
  · split at hg
    · rename_i z
      cases hg; cases tv
      refine ⟨_, rfl, (rgB_ok z).1, fun q hq => h.lst R hd ?_ hq⟩
      unfold rgV rgD
      rw [Int.sub_zero]
      exact rds_rg _ _
    · cases hg
  · cases hg
theorem ok_rgT1 : Op1Ok .f K mg (fun x H Q => ∃ n, x = .int n ∧ RgOk 0 n ∧ NewT H (rgV 0 n) Q) dRgT1 := by
  intro M p H S d v x Q R hd tv hg h
  unfold dRgT1 at hg
  split at hg
  · split at hg
    · rename_i z
      cases hg; cases tv
      refine ⟨_, rfl, (rgB_ok z).1, h.tup R hd ?_⟩
      unfold rgV rgD
      rw [Int.sub_zero]
      exact rds_rg _ _
    · cases hg
  · cases hg
theorem ok_rgL2 : Op2Ok .f K mg (fun x y H Q => ∃ i j, x = .int i ∧ y = .int j ∧ RgOk i j ∧ ∀ q, H q = none → Q (.ref q) (upd H q (.lst (rgV i j)))) dRgL2 := by
  intro M p H S d e v w x Q R hd tv tw hg h
  unfold dRgL2 at hg
  split at hg
  · split at hg
    · rename_i z
      cases hg; cases tv; cases tw
      exact ⟨_, _, rfl, rfl, (rgB_ok z).1, fun q hq => h.lst R hd (rds_rg _ _) hq⟩
    · cases hg
  · cases hg
theorem ok_rgT2 : Op2Ok .f K mg (fun x y H Q => ∃ i j, x = .int i ∧ y = .int j ∧ RgOk i j ∧ NewT H (rgV i j) Q) dRgT2 := by
  intro M p H S d e v w x Q R hd tv tw hg h
  unfold dRgT2 at hg
  split at hg
  · split at hg
    · rename_i z
      cases hg; cases tv; cases tw
      exact ⟨_, _, rfl, rfl, (rgB_ok z).1, h.tup R hd (rds_rg _ _)⟩
    · cases hg
  · cases hg
end
section
variable {X : Cx} {W : WB} {c : Fc} {e e2 : Expr} {f f' : Fx} {p q pos pos' : Pos}
theorem qListRg1 (hc : X.calm = true) (hm : X.mg "list" = none) (hm' : X.mg "range" = none) (he : PE X e (TX .t c f)) (hg : Gl X "list" := by rfl) (hg' : Gl X "range" := by rfl) (na : starEach [e] X.env = (false, eval e X.env) :: starEach [] X.env := by rfl)
    (nb : starEach [.Call (.Name "range" q) [e] [] pos'] X.env = (false, eval (.Call (.Name "range" q) [e] [] pos') X.env) :: starEach [] X.env := by rfl) : PE X (.Call (.Name "list" p) [.Call (.Name "range" q) [e] [] pos'] [] pos) (TX .f c (f1 dRgL1 f)) :=
  peW (pe_listRg hc hg hm (prg_1 hg' hm' he na) nb) fun σ H Q h => one ok_rgL1 σ H Q h
theorem qTupRg1 (hc : X.calm = true) (hm : X.mg "tuple" = none) (hm' : X.mg "range" = none) (he : PE X e (TX .t c f)) (hg : Gl X "tuple" := by rfl) (hg' : Gl X "range" := by rfl) (na : starEach [e] X.env = (false, eval e X.env) :: starEach [] X.env := by rfl)
    (nb : starEach [.Call (.Name "range" q) [e] [] pos'] X.env = (false, eval (.Call (.Name "range" q) [e] [] pos') X.env) :: starEach [] X.env := by rfl) : PE X (.Call (.Name "tuple" p) [.Call (.Name "range" q) [e] [] pos'] [] pos) (TX .f c (f1 dRgT1 f)) :=
  peW (pe_tupRgZ hc hg hm (prg_1 hg' hm' he na) nb) fun σ H Q h => one ok_rgT1 σ H Q h
theorem qListRg2 (hc : X.calm = true) (hm : X.mg "list" = none) (hm' : X.mg "range" = none) (he : PE X e (TX .t c f)) (he2 : PE X e2 (TX .t c f')) (hg : Gl X "list" := by rfl) (hg' : Gl X "range" := by rfl) (na : starEach [e, e2] X.env = (false, eval e X.env) :: starEach [e2] X.env := by rfl)
    (nc : starEach [e2] X.env = (false, eval e2 X.env) :: starEach [] X.env := by rfl) (hp : (backTo pos' (starEach [e2] X.env)).any (·.1) = false := by rfl)
    (nb : starEach [.Call (.Name "range" q) [e, e2] [] pos'] X.env = (false, eval (.Call (.Name "range" q) [e, e2] [] pos') X.env) :: starEach [] X.env := by rfl) : PE X (.Call (.Name "list" p) [.Call (.Name "range" q) [e, e2] [] pos'] [] pos) (TX .f c (f2 dRgL2 f f')) :=
  peW (pe_listRg hc hg hm (prg_2 hg' hm' he he2 na nc hp) nb) fun σ H Q h => two ok_rgL2 σ H Q h
theorem qTupRg2 (hc : X.calm = true) (hm : X.mg "tuple" = none) (hm' : X.mg "range" = none) (he : PE X e (TX .t c f)) (he2 : PE X e2 (TX .t c f')) (hg : Gl X "tuple" := by rfl) (hg' : Gl X "range" := by rfl) (na : starEach [e, e2] X.env = (false, eval e X.env) :: starEach [e2] X.env := by rfl)
    (nc : starEach [e2] X.env = (false, eval e2 X.env) :: starEach [] X.env := by rfl) (hp : (backTo pos' (starEach [e2] X.env)).any (·.1) = false := by rfl)
    (nb : starEach [.Call (.Name "range" q) [e, e2] [] pos'] X.env = (false, eval (.Call (.Name "range" q) [e, e2] [] pos') X.env) :: starEach [] X.env := by rfl) : PE X (.Call (.Name "tuple" p) [.Call (.Name "range" q) [e, e2] [] pos'] [] pos) (TX .f c (f2 dRgT2 f f')) :=
  peW (pe_tupRgZ hc hg hm (prg_2 hg' hm' he he2 na nc hp) nb) fun σ H Q h => two ok_rgT2 σ H Q h
/-! ### isinstance(e, T) -/
def D.tyN : D → Option String
  | .non => some "NoneType"
  | .bl _ => some "bool"
  | .int _ => some "int"
  | .str _ => some "str"
  | .tup _ _ => some "tuple"
  | .lst _ => some "list"
  | .frz _ => some "list"
  | .ref _ => none
  | .glo _ => none
  | .adr _ => none
def isiB (t T : String) : Bool := t == T || (t == "bool" && T == "int")
def dIsi (T : String) (S : Sto) (d : D) : Option D := (d.res S).tyN.map fun t => .bl (isiB t T)
theorem kit_is (K : PySem.W.Frag) {t : String} (ht : t ∈ ["NoneType", "bool", "int", "str", "tuple", "list"]) {T : String} (hT : T ∈ ["bool", "int", "str", "tuple", "list"]) : PySem.W.kitOne K (.type t) (.type T) = some (isiB t T) := by
  simp only [List.mem_cons, List.not_mem_nil, or_false] at ht hT
  rcases ht with rfl | rfl | rfl | rfl | rfl | rfl <;> rcases hT with rfl | rfl | rfl | rfl | rfl <;> first | rfl | decide +kernel
end
section
variable {K : PySem.W.Frag} {mg : Str → Option Value} {M : Addr → Prop} {p : List Addr} {H : Hp} {S : Sto} {d : D} {v : V}
theorem tyx_tup {z : Bool} {a : Addr} {vs : List V} (h : TQ z K H a vs) : TyX K H (.ref a) (.type "tuple") := by
  rcases h.sq with (h | ⟨o, h⟩) | ⟨o, its, n, h, hc, _⟩
  · exact .base (.tup h)
  · exact .fTuple h
  · exact .kTuple h hc
theorem tyx_lst {a : Addr} {vs : List V} (h : SqL K H a vs) : TyX K H (.ref a) (.type "list") := by
  rcases h with (h | ⟨o, h⟩) | ⟨o, its, n, h, hc, _⟩
  · exact .base (.lst h)
  · exact .base (.frz h)
  · exact .kList h hc
theorem tyx (R : SR K mg M p H S) (t : TV K mg M p H d v) {T : String} (e : (d.res S).tyN = some T) : TyX K H v (.type T) := by
  cases z : d.res S with
  | non => rw [z] at e; cases e; cases res_sc R t .non (by rw [z]; rfl); exact .base .non
  | bl b => rw [z] at e; cases e; cases res_sc R t (.bl b) (by rw [z]; rfl); exact .base (.bl b)
  | int b => rw [z] at e; cases e; cases res_sc R t (.int b) (by rw [z]; rfl); exact .base (.int b)
  | str b => rw [z] at e; cases e; cases res_sc R t (.str b) (by rw [z]; rfl); exact .base (.str b)
  | tup y ds => rw [z] at e; cases e; obtain ⟨a, vs, rfl, h, _⟩ := res_tup R t z; exact tyx_tup h
  | lst ds => rw [z] at e; cases e; obtain ⟨a, vs, rfl, h, _⟩ := res_lst R t z; exact tyx_lst (SqL.of h)
  | frz ds => rw [z] at e; cases e; obtain ⟨a, vs, rfl, h, _⟩ := res_frz R t z; exact tyx_lst h.sq
  | ref n => rw [z] at e; cases e
  | glo n => rw [z] at e; cases e
  | adr n => rw [z] at e; cases e
theorem tyN_mem {T : String} (e : d.tyN = some T) : T ∈ ["NoneType", "bool", "int", "str", "tuple", "list"] := by
  cases d <;> first | (cases e; decide) | cases e
end
section
variable {X : Cx} {W : WB} {c : Fc} {e : Expr} {f : Fx} {p pT pos : Pos}
theorem qIsi {T : Str} {Ts : String} (cc : Cc X.K X.mg W c) (hm : X.mg "isinstance" = none) (hmT : X.mg T = none) (hT : Ts ∈ ["bool", "int", "str", "tuple", "list"]) (bT : bootBuiltins T = some (.type Ts)) (nT : T ≠ "__name__") (he : PE X e (TX .t c f)) (hg : Gl X "isinstance" := by rfl) (hgT : Gl X T := by rfl) (dT : (T == ("__debug__" : Str)) = false := by decide)
    (h1 : starEach [e, .Name T pT] X.env = (false, eval e X.env) :: starEach [.Name T pT] X.env := by rfl) (h2 : starEach [.Name T pT] X.env = (false, eval (.Name T pT) X.env) :: starEach [] X.env := by rfl) (hpl : (backTo pos (starEach [.Name T pT] X.env)).any (·.1) = false := by rfl) :
    PE X (.Call (.Name "isinstance" p) [e, .Name T pT] [] pos) (TX .f c (f1S (dIsi Ts) f)) :=
  peW (pe_callB call_isi hg hm boot_isinstance (pa_cons he (pa_cons (pe_bltn (v := .ty Ts) hgT hmT bT rfl nT dT) pa_nil h2) h1) (by decide) (by decide) h1 hpl) fun σ H Q ⟨M, p, ow, ρ, S, R, h⟩ => by
    unfold f1S at h
    refine ⟨M, p, ow, ρ, S, R, (RX.bind (k' := .t) h).mono fun v H1 ⟨d, S1, M1, p1, e1, R1, t1, h1⟩ => ?_⟩
    unfold dIsi at h1
    cases z : (d.res S1).tyN with
    | none => rw [z] at h1; exact h1.elim
    | some t =>
      rw [z] at h1
      have ty := tyx R1.sto t1 z
      rw [cc.K] at ty
      exact ⟨v, .ty Ts, .type t, .type Ts, isiB t Ts, rfl, .ty Ts, ty, kit_is _ (tyN_mem z) hT, (Ans.of R1 h1).bl R1.sto R1.dom⟩
end
end QL

set_option Elab.async false
set_option linter.all false
set_option maxRecDepth 100000
/-! QN: the store: dicts and lists that several names hold; targets in brackets -/
namespace QL
open PySem PySem.Spec L2
open PyProof.Rows hiding St

/-! ### an object of the store is changed -/
section
variable {K : PySem.W.Frag} {mg : Str → Option Value} {M M' : Addr → Prop} {p p' : List Addr} {H H' : Hp} {S : Sto} {a : Addr} {ho : HO} {n : Nat} {o : MO}
theorem Ext.put (ha : a ∈ p) (nf : ∀ q u, H a ≠ some (.frz q u)) : Ext M p H M p (upd H a ho) :=
  ⟨fun b u e hb => by rw [upd_ne (fun z => hb (by rw [z]; exact ha))]; exact e, fun b hb => by
    by_cases z : b = a
    · rw [z, upd_same]; simp
    · rw [upd_ne z]; exact hb, ⟨[], by simp, by simp⟩, fun _ m => .inl m, fun b q u e => by rw [upd_ne (fun z => nf q u (by rw [← z]; exact e))]; exact e⟩
theorem SR.put (R : SR K mg M p H S) (ha : p[n]? = some a) (nf : ∀ q u, H a ≠ some (.frz q u)) (q : MR K mg M p (upd H a ho) a o) : SR K mg M p (upd H a ho) (S.set n o) := by
  have hm := List.mem_of_getElem? ha
  have hM := R.inM a hm
  have mu := wx_of (R.muts a hm) nf
  refine ⟨by rw [List.length_set]; exact R.len, R.nd, R.inM, fun m u h => ?_⟩
  by_cases e : m = n
  · subst e
    have hl : m < S.length := by
      have := (List.getElem?_eq_some_iff.mp h).1
      simpa using this
    rw [List.getElem?_set_self hl] at h
    cases h
    exact ⟨a, ha, q⟩
  · rw [List.getElem?_set_ne (Ne.symm e)] at h
    obtain ⟨b, hb, q⟩ := R.at_ m u h
    have ne : b ≠ a := fun z => e (by
      rw [z] at hb
      exact nd_ix R.nd hb ha)
    refine ⟨b, hb, ?_⟩
    cases u with
    | lst ds => obtain ⟨vs, h1, h2⟩ := q; exact ⟨vs, by rw [upd_ne ne]; exact h1, RDs.chg hM mu ds vs h2⟩
    | dct ds => obtain ⟨vs, h1, h2⟩ := q; exact ⟨vs, by rw [upd_ne ne]; exact h1, RKs.chg hM mu ds vs h2⟩
    | dctT ds => obtain ⟨vs, h1, h2⟩ := q; exact ⟨vs, by rw [upd_ne ne]; exact h1, RKs.chg hM mu ds vs h2⟩
    | ins c fs => obtain ⟨vs, ⟨C, dx, g1, h1⟩, h2⟩ := q; exact ⟨vs, ⟨C, dx, g1, by rw [upd_ne ne]; exact h1⟩, RKs.chg hM mu fs vs h2⟩
    | fdK fs => obtain ⟨vs, ⟨q, h1⟩, h2⟩ := q; exact ⟨vs, ⟨q, by rw [upd_ne ne]; exact h1⟩, RKs.chg hM mu fs vs h2⟩
    | fdT fs => obtain ⟨vs, ⟨q, h1⟩, h2⟩ := q; exact ⟨vs, ⟨q, by rw [upd_ne ne]; exact h1⟩, RKs.chg hM mu fs vs h2⟩
    | fl ds => obtain ⟨vs, ⟨q, h1⟩, h2⟩ := q; exact ⟨vs, ⟨q, by rw [upd_ne ne]; exact h1⟩, RDs.chg hM mu ds vs h2⟩
    | tab _ => exact ⟨q.1, tab_chg mu ne q.2⟩
/-! more objects in the store: what was read is read -/
mutual
theorem RD.more (q : List Addr) : ∀ (d : D) (v : V), RD K mg M p H d v → RD K mg M (p ++ q) H d v
  | .non, _, h => by unfold RD at h ⊢; exact h
  | .bl _, _, h => by unfold RD at h ⊢; exact h
  | .int _, _, h => by unfold RD at h ⊢; exact h
  | .str _, _, h => by unfold RD at h ⊢; exact h
  | .glo _, _, h => by unfold RD at h ⊢; exact h
  | .adr _, _, h => by unfold RD at h ⊢; exact h
  | .ref n, _, h => by
    unfold RD at h ⊢
    obtain ⟨a, h1, h2⟩ := h
    exact ⟨a, by rw [List.getElem?_append_left (List.getElem?_eq_some_iff.mp h1).1]; exact h1, h2⟩
  | .tup z ds, v, h => by
    unfold RD at h ⊢
    obtain ⟨b, vs, h1, h2, h3⟩ := h
    exact ⟨b, vs, h1, h2, RDs.more q ds vs h3⟩
  | .lst ds, v, h => by
    unfold RD at h ⊢
    obtain ⟨b, vs, h1, h2, h3, h4⟩ := h
    exact ⟨b, vs, h1, h2, h3, RDs.more q ds vs h4⟩
  | .frz ds, v, h => by
    unfold RD at h ⊢
    obtain ⟨b, vs, h1, h2, h3⟩ := h
    exact ⟨b, vs, h1, h2, RDs.more q ds vs h3⟩
theorem RDs.more (q : List Addr) : ∀ (ds : List D) (vs : List V), RDs K mg M p H ds vs → RDs K mg M (p ++ q) H ds vs
  | [], _, h => by unfold RDs at h ⊢; exact h
  | d :: ds, _, h => by
    unfold RDs at h ⊢
    obtain ⟨v, r, h1, h2, h3⟩ := h
    exact ⟨v, r, h1, RD.more q d v h2, RDs.more q ds r h3⟩
end
theorem RKs.more {κ : Type} (q : List Addr) : ∀ (ds : List (κ × D)) (vs : List (κ × V)), RKs K mg M p H ds vs → RKs K mg M (p ++ q) H ds vs
  | [], _, h => by unfold RKs at h ⊢; exact h
  | d :: ds, _, h => by
    unfold RKs at h ⊢
    obtain ⟨v, r, h1, h2, h3⟩ := h
    exact ⟨v, r, h1, RD.more q _ v h2, RKs.more q ds r h3⟩
theorem MR.more (q : List Addr) {u : MO} (h : MR K mg M p H a u) : MR K mg M (p ++ q) H a u := by
  cases u with
  | lst ds => obtain ⟨vs, h1, h2⟩ := h; exact ⟨vs, h1, RDs.more q ds vs h2⟩
  | dct ds => obtain ⟨vs, h1, h2⟩ := h; exact ⟨vs, h1, RKs.more q ds vs h2⟩
  | dctT ds => obtain ⟨vs, h1, h2⟩ := h; exact ⟨vs, h1, RKs.more q ds vs h2⟩
  | ins c fs => obtain ⟨vs, h1, h2⟩ := h; exact ⟨vs, h1, RKs.more q fs vs h2⟩
  | fdK fs => obtain ⟨vs, h1, h2⟩ := h; exact ⟨vs, h1, RKs.more q fs vs h2⟩
  | fdT fs => obtain ⟨vs, h1, h2⟩ := h; exact ⟨vs, h1, RKs.more q fs vs h2⟩
  | fl ds => obtain ⟨vs, h1, h2⟩ := h; exact ⟨vs, h1, RDs.more q ds vs h2⟩
  | tab _ => exact h
theorem SR.add (R : SR K mg M p H S) (hM : M a) (hp : a ∉ p) (q : MR K mg M p H a o) : SR K mg M (p ++ [a]) H (S ++ [o]) := by
  refine ⟨by rw [List.length_append, List.length_append, R.len]; rfl, ?_, fun b hb => ?_, fun m u h => ?_⟩
  · rw [List.nodup_append]
    exact ⟨R.nd, List.nodup_cons.mpr ⟨by simp, List.nodup_nil⟩, fun x hx y hy => by
      rw [List.mem_singleton.mp hy]
      exact fun z => hp (by rw [← z]; exact hx)⟩
  · rcases List.mem_append.mp hb with z | z
    · exact R.inM b z
    · rw [List.mem_singleton.mp z]; exact hM
  · by_cases hm : m < S.length
    · rw [List.getElem?_append_left hm] at h
      obtain ⟨b, hb, q⟩ := R.at_ m u h
      exact ⟨b, by rw [List.getElem?_append_left (by rw [R.len]; exact hm)]; exact hb, q.more [a]⟩
    · rw [List.getElem?_append_right (by omega)] at h
      have hz : m - S.length = 0 := by
        have := (List.getElem?_eq_some_iff.mp h).1
        simp at this
        omega
      rw [hz] at h
      cases h
      refine ⟨a, ?_, q.more [a]⟩
      rw [List.getElem?_append_right (by rw [R.len]; omega), R.len, hz]
      rfl
end
section
variable {c : Fc} {M M' : Addr → Prop} {p p' : List Addr} {H H' : Hp} {S S' : Sto} {ow : Nat → Option Addr} {σ : St} {ρ : Rho} {a : Addr} {n : Nat} {o : MO} {ho : HO}
theorem FR.store (R : FR c M p H ow σ ρ S) (ha : p[n]? = some a) (nf : ∀ q u, H a ≠ some (.frz q u)) (q : MR c.K c.mg M p (upd H a ho) a o) : FR c M p (upd H a ho) ow σ ρ (S.set n o) :=
  R.step (Ext.put (List.mem_of_getElem? ha) nf) (fun _ m => m) (R.sto.put ha nf q) fun b m => by
    by_cases z : b = a
    · rw [z, upd_same]; simp
    · rw [upd_ne z]; exact R.dom b m
/-- a new object comes to the store -/
theorem FR.add (R : FR c M p H ow σ ρ S) (hM : M a) (hp : a ∉ p) (h0 : c.H0 a = none) (hpn : c.pn a = none) (fr : ∀ j, ow j ≠ some a) (q : MR c.K c.mg M p H a o) : FR c M (p ++ [a]) H ow σ ρ (S ++ [o]) where
  ext := ⟨fun b u e hb => R.ext.keep b u e hb, R.ext.dom, by
    obtain ⟨q, e, hq⟩ := R.ext.phi
    exact ⟨q ++ [a], by rw [e, List.append_assoc], fun b hb => by
      rcases List.mem_append.mp hb with z | z
      · exact hq b z
      · rw [List.mem_singleton.mp z]; exact h0⟩, R.ext.mm, R.ext.fz⟩
  M0 := R.M0
  sto := R.sto.add hM hp q
  dom := R.dom
  own := fun i b h => by
    obtain ⟨h1, h2, h3⟩ := R.own i b h
    exact ⟨h1, fun z => by
      rcases List.mem_append.mp z with z | z
      · exact h2 z
      · rw [List.mem_singleton.mp z] at h; exact fr i h, h3⟩
  inj := R.inj
  slots := fun i s hs => by
    have q := R.slots i s hs
    cases s with
    | emp => exact q
    | val d => obtain ⟨h1, v, h2, h3⟩ := q; exact ⟨h1, v, h2, RD.more [a] d v h3⟩
    | own ds => obtain ⟨b, vs, h1, h2, h3, h4⟩ := q; exact ⟨b, vs, h1, h2, h3, RDs.more [a] ds vs h4⟩
    | bor ds =>
      obtain ⟨h1, v, h2, b, ws, rfl, h4, h5, h6⟩ := q
      obtain ⟨b', e1, e2⟩ := R.bor i ds hs
      have eb : b = b' := by
        rw [h2] at e1
        exact V.ref.inj (Option.some.inj (Option.some.inj e1))
      refine ⟨h1, _, h2, b, ws, rfl, h4, fun z => ?_, RDs.more [a] ds ws h6⟩
      rcases List.mem_append.mp z with z | z
      · exact h5 z
      · rw [← eb, List.mem_singleton.mp z] at e2; exact e2 h0
  len := R.len
  pin := R.pin
  pinM := R.pinM
  pinO := R.pinO
  pinP := fun b hb => by
    rcases List.mem_append.mp hb with z | z
    · exact R.pinP b z
    · exact fun o e => by rw [List.mem_singleton.mp z, hpn] at e; cases e
  pinp := by
    obtain ⟨q, e⟩ := R.pinp
    exact ⟨q ++ [a], by rw [e, List.append_assoc]⟩
  m0d := R.m0d
  oln := R.oln
  bor := R.bor
theorem Ext.add (e : Ext M p H M' p' H') (h : H a = none) : Ext M p H M' (p' ++ [a]) H' :=
  ⟨e.keep, e.dom, by
    obtain ⟨q, eq, hq⟩ := e.phi
    exact ⟨q ++ [a], by rw [eq, List.append_assoc], fun b hb => by
      rcases List.mem_append.mp hb with z | z
      · exact hq b z
      · rw [List.mem_singleton.mp z]; exact h⟩, e.mm, e.fz⟩
end
/-- a list newly made goes to the store -/
def fToS (f : Fx) : Fx := fun ρ S => (f ρ S).bind fun d S => match d with
  | .lst ds => .ok (.ref S.length) (S ++ [.lst ds])
  | d => .ok d S
section
variable {X : Cx} {W : WB} {c : Fc} {a b e ix o : Expr} {es : List Expr} {pos pos' tpos : Pos} {f fa fb fi fo : Fx} {g : Gx} {i j : Nat} {x y : Str}
theorem qToS (h : PE X e (TX .f c f)) : PE X e (TX .r c (fToS f)) := peW h fun σ H Q ⟨M, p, ow, ρ, S, R, h⟩ => ⟨M, p, ow, ρ, S, R, by
  unfold fToS at h
  cases z : f ρ S with
  | stuck => rw [z] at h; exact h
  | err n fs S' => rw [z] at h; exact h
  | ok d S1 =>
    rw [z] at h
    intro v M1 p1 H1 e1 m1 R1 t
    cases d with
    | lst ds =>
      obtain ⟨a, vs, rfl, h2, h3, h4, h5, h6⟩ := t
      obtain ⟨z1, z2, z3⟩ := R.h0 h4
      refine h (.ref a) M1 (p1 ++ [a]) H1 (e1.add h4) m1 (R1.add h2 h3 z1 z2 z3 (o := .lst ds) ⟨vs, h5, h6⟩) ?_
      unfold Came RD
      exact ⟨a, by rw [List.getElem?_append_right (by rw [R1.sto.len]; exact Nat.le_refl _), R1.sto.len, Nat.sub_self]; rfl, rfl⟩
    | _ => exact h v M1 p1 H1 e1 m1 R1 t⟩

/-! ### keys -/
def keyD : D → Option Key
  | .int i => some (.inl i)
  | .str x => some (.inr x)
  | _ => none
def putD {κ : Type} [DecidableEq κ] (kvs : List (κ × D)) (k : κ) (d : D) : List (κ × D) := if (kvs.any fun kv => decide (kv.1 = k)) = true then kvs.map (fun kv => if kv.1 = k then (kv.1, d) else kv) else kvs ++ [(k, d)]
def valD {κ : Type} [DecidableEq κ] (kvs : List (κ × D)) (k : κ) : Option D := (kvs.find? fun kv => decide (kv.1 = k)).map (·.2)
theorem keyD_tv {K : PySem.W.Frag} {mg : Str → Option Value} {M : Addr → Prop} {p : List Addr} {H : Hp} {d : D} {v : V} {k : Key} (t : TV K mg M p H d v) (e : keyD d = some k) : v = kV k := by
  cases d <;> first | (cases e; cases t; rfl) | cases e
section
variable {K : PySem.W.Frag} {mg : Str → Option Value} {M : Addr → Prop} {p : List Addr} {H : Hp}
theorem RKs.length {κ : Type} : ∀ {ds : List (κ × D)} {ws : List (κ × V)}, RKs K mg M p H ds ws → ws.length = ds.length
  | [], _, h => by unfold RKs at h; subst h; rfl
  | d :: ds, _, h => by
    unfold RKs at h
    obtain ⟨v, r, rfl, _, h3⟩ := h
    rw [List.length_cons, List.length_cons, RKs.length h3]
theorem RKs.val {κ : Type} [DecidableEq κ] : ∀ {ds : List (κ × D)} {ws : List (κ × V)} {k : κ} {d : D}, RKs K mg M p H ds ws → valD ds k = some d → ∃ v, valV ws k = some v ∧ RD K mg M p H d v
  | [], _, _, _, _, e => by cases e
  | kd :: ds, _, k, d, h, e => by
    unfold RKs at h
    obtain ⟨v, r, rfl, h2, h3⟩ := h
    by_cases z : kd.1 = k
    · rw [valV_pos z]
      simp only [valD, List.find?_cons, z, decide_true, Option.map_some, Option.some.injEq] at e
      subst e
      exact ⟨v, rfl, h2⟩
    · rw [valV_neg z]
      simp only [valD, List.find?_cons, z, decide_false] at e
      exact RKs.val h3 e
theorem RKs.any {κ : Type} [DecidableEq κ] : ∀ {ds : List (κ × D)} {ws : List (κ × V)} {k : κ}, RKs K mg M p H ds ws → (ws.any fun kv => decide (kv.1 = k)) = ds.any fun kv => decide (kv.1 = k)
  | [], _, _, h => by unfold RKs at h; subst h; rfl
  | kd :: ds, _, k, h => by
    unfold RKs at h
    obtain ⟨v, r, rfl, h2, h3⟩ := h
    rw [List.any_cons, List.any_cons, RKs.any h3]
theorem RKs.app {κ : Type} {k : κ} {d : D} {v : V} (hr : RD K mg M p H d v) : ∀ {ds : List (κ × D)} {ws : List (κ × V)}, RKs K mg M p H ds ws → RKs K mg M p H (ds ++ [(k, d)]) (ws ++ [(k, v)])
  | [], _, h => by
    unfold RKs at h; subst h
    unfold RKs
    exact ⟨v, [], rfl, hr, by unfold RKs; rfl⟩
  | kd :: ds, _, h => by
    unfold RKs at h
    obtain ⟨u, r, rfl, h2, h3⟩ := h
    rw [List.cons_append, List.cons_append]
    unfold RKs
    exact ⟨u, _, rfl, h2, RKs.app hr h3⟩
theorem RKs.subst {κ : Type} [DecidableEq κ] {k : κ} {d : D} {v : V} (hr : RD K mg M p H d v) : ∀ {ds : List (κ × D)} {ws : List (κ × V)}, RKs K mg M p H ds ws → RKs K mg M p H (ds.map fun kv => if kv.1 = k then (kv.1, d) else kv) (ws.map fun kv => if kv.1 = k then (kv.1, v) else kv)
  | [], _, h => by unfold RKs at h; subst h; unfold RKs; rfl
  | kd :: ds, _, h => by
    unfold RKs at h
    obtain ⟨u, r, rfl, h2, h3⟩ := h
    rw [List.map_cons, List.map_cons]
    by_cases z : kd.1 = k
    · rw [if_pos z, if_pos z]
      unfold RKs
      exact ⟨v, _, rfl, hr, RKs.subst hr h3⟩
    · rw [if_neg z, if_neg z]
      unfold RKs
      exact ⟨u, _, rfl, h2, RKs.subst hr h3⟩
theorem RKs.put {κ : Type} [DecidableEq κ] {k : κ} {d : D} {v : V} {ds : List (κ × D)} {ws : List (κ × V)} (hr : RD K mg M p H d v) (h : RKs K mg M p H ds ws) : RKs K mg M p H (putD ds k d) (putK ws k v) := by
  unfold putD putK
  rw [h.any]
  split
  · exact h.subst hr
  · exact h.app hr
end
/-- d[k] of a dict of the store -/
def dGetK (S : Sto) (d e : D) : Option D := match d with
  | .ref n => (match S[n]? with
    | some (.dct kvs) => (keyD e).bind (valD kvs)
    | _ => none)
  | _ => none
theorem ok_dget {K : PySem.W.Frag} {mg : Str → Option Value} : Op2OkS .r K mg (fun x y H Q => ∃ a v, x = .ref a ∧ DGet H a y (some v) ∧ Q v H) dGetK := by
  intro M p H S d e v w x Q R hd tv tw hg h
  cases d with
  | ref n =>
    simp only [dGetK] at hg
    obtain ⟨a, h1, rfl⟩ := tv
    split at hg
    · rename_i kvs es
      obtain ⟨a', h2, ws, h3, h4⟩ := R.at_ n _ es
      rw [h1] at h2; cases h2
      cases ek : keyD e with
      | none => rw [ek] at hg; cases hg
      | some k =>
        rw [ek] at hg
        have ew := keyD_tv tw ek
        subst ew
        obtain ⟨u, g1, g2⟩ := h4.val (show valD kvs k = some x from hg)
        exact ⟨a, u, rfl, .inl ⟨ws, k, .inl h3, rfl, g1.symm⟩, h.rd R hd g2⟩
    · cases hg
  | _ => cases hg
theorem qDget (hu : X.A.units + 1 < cLine) (ho : PE X o (TX .t c fo)) (hi : PE X ix (TX .t c fi)) (hs : NoSl ix := by intro _ _; rfl) : PE X (.Subscript o ix pos) (TX .r c (f2S dGetK fo fi)) :=
  peW (pe_dget hu ho hi hs) fun σ H Q h => twoS ok_dget σ H Q h

/-! ### targets in brackets -/
def moSet (o : MO) (k d : D) : Option MO := match o with
  | .lst ds => (match k with
    | .int k => (ixN ds.length k).map fun j => .lst (ds.set j d)
    | _ => none)
  | .dct kvs => if kvs.length < 1000000 then (keyD k).map fun k => .dct (putD kvs k d) else none
  | .dctT _ => none
  | .tab _ => none
  | .ins _ _ => none
  | .fdK _ => none
  | .fdT _ => none
  | .fl _ => none
def tfSub (i : Nat) (fi : Fx) : Tf := fun d ρ S => match ρ[i]? with
  | some (.own ds) => thenG (fi ρ S) ρ fun k S => (match moSet (.lst ds) k d with
    | some (.lst ds) => .nx (ρ.set i (.own ds)) S
    | _ => .stuck)
  | some (.val (.ref n)) => thenG (fi ρ S) ρ fun k S => (match (S[n]?).bind fun o => moSet o k d with
    | some o => .nx ρ (S.set n o)
    | none => .stuck)
  | _ => .stuck
theorem PSet.or {t t' : TSet} (h : PSet X t) (h' : PSet X t') : PSet X (fun o i v H Q => t o i v H Q ∨ t' o i v H Q) := by
  intro pins s σ H o i v ov iv u Q J r1 r2 r3 q
  rcases q with q | q
  · exact h pins s σ H o i v ov iv u Q J r1 r2 r3 q
  · exact h' pins s σ H o i v ov iv u Q J r1 r2 r3 q
def rSetA : TSet := fun o i v H Q => rSetL o i v H Q ∨ rSetD o i v H Q
theorem pgW {t t' : TG} (h : PG X e t) (w : ∀ v σ H Q, t' v σ H Q → t v σ H Q) : PG X e t' := ⟨fun pins s σ H v u Q J r q => h.run pins s σ H v u Q J r (w v σ H Q q)⟩
/-- in any context -/
def TXA (K : PySem.W.Frag) (mg : Str → Option Value) (W : WB) (k : Kd) (f : Fx) : TE := fun σ H Q => ∃ c, Cc K mg W c ∧ TX k c f σ H Q
theorem toA {k : Kd} (h : ∀ c, Cc X.K X.mg W c → PE X e (TX k c f)) : PE X e (TXA X.K X.mg W k f) := ⟨fun pins s σ H Q J ⟨c, cc, q⟩ => (h c cc).run pins s σ H Q J q⟩
theorem qxSub {tpos : Pos} (hu : X.A.units + 1 < cLine) (hi : ∀ c, Cc X.K X.mg W c → PE X ix (TX .t c fi)) (hN : X.N[i]? = some x := by rfl) (hv : Vis X.env.scope x := by first | exact Or.inl rfl | exact Or.inr (Or.inl rfl) | exact Or.inr (Or.inr rfl))
    (hd : (x == ("__debug__" : Str)) = false := by decide) (hcd : (x == ("__classdict__" : Str)) = false := by decide)
    (ha : ∀ v, assign (.Subscript (.Name x pos) ix tpos) X.env v = (do
      let ov ← holding [v] (eval (.Name x pos) X.env)
      let iv ← holding [v, ov] (eval ix X.env)
      standAt tpos
      holding [v, ov, iv] (setItem ov iv v)
      release [v, ov, iv] []) := by intro _; rfl) : PG X (.Subscript (.Name x pos) ix tpos) (gX X.K X.mg W (tfSub i fi)) :=
  pgW (pg_sub (pe_var hN hv hd hcd) (toA hi) (PSet.or set_list (set_dict hu)) ha) fun v σ H Q ⟨c, M, p, ow, ρ, S, d, cc, R, rd, h⟩ => by
    unfold tfSub at h
    cases z : ρ[i]? with
    | none => rw [z] at h; exact h.elim
    | some s =>
      rw [z] at h
      cases s with
      | own ds =>
        obtain ⟨a, vs, h1, h2, h3, h4, _⟩ := R.own_at z
        refine ⟨.ref a, h1, c, cc, M, p, ow, ρ, S, R, (RS.then (k := .t) h).mono fun w H1 ⟨k, S1, M1, p1, e1, R1, t1, q1⟩ => ?_⟩
        obtain ⟨a', vs', g1, g2, g3, g4, g5⟩ := R1.own_at z
        have ea : a' = a := by
          rw [h1] at g1
          exact (V.ref.inj (Option.some.inj (Option.some.inj g1))).symm
        subst ea
        have rd1 := RD.ext e1 R.sto.muts R.sto.inM d v rd
        cases k with
        | int k =>
          cases t1
          simp only [moSet] at q1
          cases y : ixN ds.length k with
          | none => simp only [y, Option.map_none] at q1; exact q1.elim
          | some j =>
            simp only [y, Option.map_some] at q1
            exact .inl ⟨a', vs', k, j, rfl, rfl, g2, by rw [g4.length]; exact y, q1 _ _ _ _ _ (g5 _ _ (RDs.set j g4 rd1))⟩
        | _ => exact q1.elim
      | val d0 =>
        obtain ⟨_, v0, h1, h2⟩ := R.slots i _ z
        cases d0 with
        | ref n =>
          unfold RD at h2
          obtain ⟨a, h3, rfl⟩ := h2
          refine ⟨.ref a, h1, c, cc, M, p, ow, ρ, S, R, (RS.then (k := .t) h).mono fun w H1 ⟨k, S1, M1, p1, e1, R1, t1, q1⟩ => ?_⟩
          have rd1 := RD.ext e1 R.sto.muts R.sto.inM d v rd
          have h4 := e1.get h3
          have hM := R1.sto.inM a (List.mem_of_getElem? h4)
          have mu := R1.sto.muts a (List.mem_of_getElem? h4)
          cases y : S1[n]? with
          | none => simp only [y, Option.bind_none] at q1; exact q1.elim
          | some mo =>
            simp only [y, Option.bind_some] at q1
            obtain ⟨a', g1, g2⟩ := R1.sto.at_ n _ y
            rw [h4] at g1; cases g1
            cases mo with
            | lst ds =>
              obtain ⟨vs, g3, g4⟩ := g2
              cases k with
              | int k =>
                cases t1
                simp only [moSet] at q1
                cases y : ixN ds.length k with
                | none => simp only [y, Option.map_none] at q1; exact q1.elim
                | some j =>
                  simp only [y, Option.map_some] at q1
                  exact .inl ⟨a, vs, k, j, rfl, rfl, g3, by rw [g4.length]; exact y, q1 _ _ _ _ _ (R1.store h4 (fun q u e => by rw [g3] at e; cases e) ⟨_, upd_same, RDs.chg hM (by rw [g3]; trivial) _ _ (RDs.set j g4 rd1)⟩)⟩
              | _ => exact q1.elim
            | dct kvs =>
              obtain ⟨ws, g3, g4⟩ := g2
              simp only [moSet] at q1
              split at q1
              · rename_i o eo
                split at eo
                · rename_i hl
                  cases ek : keyD k with
                  | none => rw [ek] at eo; cases eo
                  | some kk =>
                    rw [ek] at eo; cases eo
                    have ew := keyD_tv t1 ek
                    subst ew
                    exact .inr ⟨a, _, rfl, .inl ⟨ws, kk, g3, rfl, millT (by rw [g4.length]; exact Nat.le_of_lt hl), rfl⟩, q1 _ _ _ _ _ (R1.store h4 (fun q u e => by rw [g3] at e; cases e) ⟨_, upd_same, RKs.chg hM (by rw [g3]; trivial) _ _ (g4.put rd1)⟩)⟩
                · cases eo
              · exact q1.elim
            | dctT kvs => simp only [moSet] at q1; exact q1.elim
            | tab _ => simp only [moSet] at q1; exact q1.elim
            | ins _ _ => simp only [moSet] at q1; exact q1.elim
            | fdK _ => simp only [moSet] at q1; exact q1.elim
            | fdT _ => simp only [moSet] at q1; exact q1.elim
            | fl _ => simp only [moSet] at q1; exact q1.elim
        | _ => exact h.elim
      | _ => exact h.elim
/-! ### target = e -/
def gAsg (f : Fx) (tf : Tf) : Gx := fun ρ S => thenG (f ρ S) ρ fun d S => tf d ρ S
theorem RS.weak {r : SRes} {D D' : Ends} (h : RS c r D) (n : ∀ σ H, D.nx σ H → D'.nx σ H) (hr : ∀ d S, r ≠ .ret d S) (hb : ∀ ρ S, r ≠ .brk ρ S) (hc : ∀ ρ S, r ≠ .ct ρ S) : RS c r D' := by
  cases r with
  | nx ρ S => exact fun σ' M' p' H' ow' R => n _ _ (h σ' M' p' H' ow' R)
  | ret d S => exact absurd rfl (hr d S)
  | brk ρ S => exact absurd rfl (hb ρ S)
  | ct ρ S => exact absurd rfl (hc ρ S)
  | err n fs ρ S => exact h
  | stuck => exact h
end
end QL

set_option Elab.async false
set_option linter.all false
set_option maxRecDepth 100000
/-! QO: targets of several parts, dicts written out, repr, in, index, calls of what a name holds -/
namespace QL
open PySem PySem.Spec L2
open PyProof.Rows hiding St

section
variable {X : Cx} {W : WB} {c : Fc} {a b e ix o : Expr} {es : List Expr} {pos pos' tpos : Pos} {f fa fb fi fo : Fx} {g : Gx} {i j : Nat} {x y : Str} {t tf : Tf}
/-! ### targets of several parts -/
abbrev Tfs := List D → Gx
def gXs (K : PySem.W.Frag) (mg : Str → Option Value) (W : WB) (tf : Tfs) : TGs := fun vs σ H Q => ∃ c M p ow ρ S ds, Cc K mg W c ∧ FR c M p H ow σ ρ S ∧ RDs c.K c.mg M p H ds vs ∧ RS c (tf ds ρ S) { nx := Q, rt := fun _ _ => False }
def tfNil : Tfs := fun ds ρ S => match ds with
  | [] => .nx ρ S
  | _ => .stuck
def onlyN (r : SRes) (k : Rho → Sto → SRes) : SRes := match r with
  | .nx ρ S => k ρ S
  | .err n fs ρ S => .err n fs ρ S
  | _ => .stuck
def tfCons (t : Tf) (r : Tfs) : Tfs := fun ds ρ S => match ds with
  | d :: ds => onlyN (t d ρ S) fun ρ S => r ds ρ S
  | [] => .stuck
def tfTup (n : Nat) (r : Tfs) : Tf := fun d ρ S => match d with
  | .tup _ ds => if ds.length = n then r ds ρ S else .stuck
  | _ => .stuck
theorem pgsW {t t' : TGs} (h : PGs X es t) (w : ∀ v σ H Q, t' v σ H Q → t v σ H Q) : PGs X es t' := ⟨fun pins s σ H v u Q J r q => h.run pins s σ H v u Q J r (w v σ H Q q)⟩
theorem qxNil : PGs X [] (gXs X.K X.mg W tfNil) := pgsW pgs_nil fun vs σ H Q ⟨c, M, p, ow, ρ, S, ds, cc, R, r, h⟩ => by
  cases ds with
  | nil =>
    unfold RDs at r
    exact ⟨r, h σ M p H ow R⟩
  | cons _ _ => exact h.elim
theorem qxCons {r : Tfs} (h1 : PG X e (gX X.K X.mg W t)) (h2 : PGs X es (gXs X.K X.mg W r)) (hs : (assignEach (e :: es) X.env).map (·.2) = assign e X.env :: (assignEach es X.env).map (·.2) := by rfl) : PGs X (e :: es) (gXs X.K X.mg W (tfCons t r)) :=
  pgsW (pgs_cons h1 h2 hs) fun vs σ H Q ⟨c, M, p, ow, ρ, S, ds, cc, R, rd, h⟩ => by
    cases ds with
    | nil => exact h.elim
    | cons d ds =>
      unfold RDs at rd
      obtain ⟨v, w, rfl, r1, r2⟩ := rd
      refine ⟨v, w, rfl, c.snap M p H ow, M, p, ow, ρ, S, d, cc.snap, R.snap, r1, ?_⟩
      simp only [tfCons] at h
      cases z : t d ρ S with
      | nx ρ1 S1 =>
        rw [z] at h
        exact fun σ' M' p' H' ow' R' => ⟨c, M', p', ow', ρ1, S1, ds, cc, R.unsnap R', RDs.stb R.ab R'.stb ds w r2, h⟩
      | err n fs ρ1 S1 => rw [z] at h; exact fun C d σ' M' p' H' ow' hc R' t => h C d σ' M' p' H' ow' hc (R.unsnap R') t
      | _ => rw [z] at h; exact h.elim
theorem qxTup {r : Tfs} {k n : Nat} (hc : X.calm = true) (h : PGs X es (gXs X.K X.mg W r)) (hn : (assignEach es X.env).length = n := by rfl) (hst : (assignEach es X.env).findIdx? (·.1) = none := by rfl) : PG X (.Tuple es k pos) (gX X.K X.mg W (tfTup n r)) :=
  pgW (pg_tup hc h hn hst) fun v σ H Q ⟨c, M, p, ow, ρ, S, d, cc, R, rd, h⟩ => by
    cases d with
    | tup z ds =>
      simp only [tfTup] at h
      split at h
      · rename_i y
        unfold RD at rd
        obtain ⟨a, ws, rfl, h2, h3⟩ := rd
        exact ⟨a, ws, rfl, by rw [← cc.K]; exact h2.sq, h3.length.trans y, c, M, p, ow, ρ, S, ds, cc, R, h3, h⟩
      · exact h.elim
    | _ => exact h.elim
def gAs (f : Fx) (tf : Tf) : Gx := fun ρ S => thenG (f ρ S) ρ fun d S => onlyN (tf d ρ S) .nx
theorem qAs {tg : Expr} (cc : Cc X.K X.mg W c) (he : PE X e (TX .r c f)) (hg : PG X tg (gX X.K X.mg W tf)) (hs : swapsWithSole [tg] e pos.line X.env = pure false := by rfl) (hw : swappedStores [tg] e X.env = pure none := by rfl)
    (h1 : (assignEach [tg] X.env).map (·.2) = [assign tg X.env] := by rfl) : PS X (.Assign [tg] e pos) (TSx c (gAs f tf)) :=
  psW (ps_asg he hg hs hw h1) fun D σ H ⟨M, p, ow, ρ, S, R, h⟩ => ⟨M, p, ow, ρ, S, R, (RS.then (k := .r) h).mono fun v H1 ⟨d, S1, M1, p1, e1, R1, t1, h1⟩ => ⟨c, M1, p1, ow, ρ, S1, d, cc, R1, t1, by
    cases z : tf d ρ S1 with
    | nx ρ2 S2 => rw [z] at h1; exact h1
    | err n fs ρ2 S2 => rw [z] at h1; exact h1
    | _ => rw [z] at h1; exact h1.elim⟩⟩
/-! ### dicts written out -/
def fKs (kfs : List (Key × Fx)) : Rho → Sto → ARes := match kfs with
  | [] => fun _ S => .ok [] S
  | kf :: r => fCons kf.2 (fKs r)
def trsOf (c : Fc) (kfs : List (Key × Fx)) : List (TE × TE) := kfs.map fun kf => (tC (kV kf.1), TX .r c kf.2)
theorem pairsRead : ∀ (kfs : List (Key × Fx)) (σ : St) (H : Hp) (Q : List (V × V) → Hp → Prop), (∃ M p ow ρ S, FR c M p H ow σ ρ S ∧ RA true c M p H ow σ ρ (fKs kfs ρ S) fun vs H1 => Q ((kfs.map fun kf => kV kf.1).zip vs) H1) → tPairs (trsOf c kfs) σ H Q
  | [], σ, H, Q, ⟨M, p, ow, ρ, S, R, h⟩ => h [] M p H .refl (fun _ m => m) R (by unfold Holds; rfl)
  | (k, f) :: r, σ, H, Q, ⟨M, p, ow, ρ, S, R, h⟩ => by
    refine ⟨M, p, ow, ρ, S, R, ?_⟩
    have h : RA true c M p H ow σ ρ (fCons f (fKs r) ρ S) fun vs H1 => Q ((kV k :: r.map fun kf => kV kf.1).zip vs) H1 := h
    show RX .r c M p H ow σ ρ (f ρ S) _
    unfold fCons at h
    cases z : f ρ S with
    | stuck => rw [z] at h; exact h
    | err n fs S' => rw [z] at h; exact h
    | ok d S1 =>
      rw [z] at h
      intro v M1 p1 H1 e1 m1 R1 t1
      refine pairsRead r σ H1 _ ⟨M1, p1, ow, ρ, S1, R1, ?_⟩
      cases z2 : fKs r ρ S1 with
      | stuck => simp only [z2] at h; exact h
      | err n fs S' => simp only [z2] at h; exact fun C d M' p' H' hc e m R' t => h C d M' p' H' hc (e1.trans e) (fun a q => m a (m1 a q)) R' t
      | ok ds S2 =>
        simp only [z2] at h
        intro vs M2 p2 H2 e2 m2 R2 t2
        have q := h (v :: vs) M2 p2 H2 (e1.trans e2) (fun a q => m2 a (m1 a q)) R2 (by
          unfold Holds
          exact ⟨v, vs, rfl, RD.ext e2 R1.sto.muts R1.sto.inM d v t1, t2⟩)
        exact q
def mergeD (kvs more : List (Key × D)) : List (Key × D) := more.foldl (fun acc kv => putD acc kv.1 kv.2) kvs
theorem RKs.merge {K : PySem.W.Frag} {mg : Str → Option Value} {M : Addr → Prop} {p : List Addr} {H : Hp} : ∀ {ks : List Key} {ds : List D} {vs : List V} {kvs : List (Key × D)} {ws : List (Key × V)}, RDs K mg M p H ds vs → ks.length = ds.length → RKs K mg M p H kvs ws → RKs K mg M p H (mergeD kvs (ks.zip ds)) (mergeK ws (ks.zip vs))
  | [], ds, vs, kvs, ws, _, _, h => h
  | k :: ks, [], vs, kvs, ws, _, l, h => by cases l
  | k :: ks, d :: ds, vs, kvs, ws, r, l, h => by
    unfold RDs at r
    obtain ⟨v, w, rfl, r1, r2⟩ := r
    exact RKs.merge (ks := ks) r2 (by simpa using l) (h.put r1)
/-- a new dict, in the store -/
def fDict (kfs : List (Key × Fx)) : Fx := fun ρ S => (fKs kfs ρ S).bind fun ds S => if ds.length = kfs.length ∧ kfs.length ≤ 15 then .ok (.ref S.length) (S ++ [.dct (mergeD [] ((kfs.map (·.1)).zip ds))]) else .stuck
theorem FR.tmpO {M : Addr → Prop} {p : List Addr} {H : Hp} {S : Sto} {ow : Nat → Option Addr} {σ : St} {ρ : Rho} {a : Addr} {ho : HO} (R : FR c M p H ow σ ρ S) (hM : M a) (hp : a ∉ p) (h0 : c.H0 a = none) (hpn : c.pn a = none) (hn : ∀ j, ow j ≠ some a) (mu : Wx (H a)) : FR c M p (upd H a ho) ow σ ρ S where
  ext := R.ext.chg h0
  M0 := R.M0
  sto := R.sto.chg hM mu hp
  dom := fun b m => by
    by_cases z : b = a
    · rw [z, upd_same]; simp
    · rw [upd_ne z]; exact R.dom b m
  own := R.own
  inj := R.inj
  slots := fun j s hs => by
    have q := R.slots j s hs
    cases s with
    | emp => exact q
    | val d => obtain ⟨h1, v, h2, h3⟩ := q; exact ⟨h1, v, h2, RD.chg hM mu d v h3⟩
    | own ds =>
      obtain ⟨b, ws, h1, h2, h3, h4⟩ := q
      exact ⟨b, ws, h1, h2, by rw [upd_ne (fun e => hn j (by rw [h1, e]))]; exact h3, RDs.chg hM mu ds ws h4⟩
    | bor ds =>
      obtain ⟨h1, v, h2, b, ws, rfl, h4, h5, h6⟩ := q
      obtain ⟨b', e1, e2⟩ := R.bor j ds hs
      have eb : b = b' := by
        rw [h2] at e1
        exact V.ref.inj (Option.some.inj (Option.some.inj e1))
      refine ⟨h1, _, h2, b, ws, rfl, ?_, h5, RDs.chg hM mu ds ws h6⟩
      rw [upd_ne (fun e => e2 (by rw [← eb, e]; exact h0))]
      exact h4
  len := R.len
  pin := fun b u h => by rw [upd_ne (fun z => by rw [z, hpn] at h; cases h)]; exact R.pin b u h
  pinM := R.pinM
  pinO := R.pinO
  pinP := R.pinP
  pinp := R.pinp
  m0d := R.m0d
  oln := fun j b hb => by
    obtain ⟨ws, q⟩ := R.oln j b hb
    exact ⟨ws, by rw [upd_ne (fun z => hn j (by rw [hb, z]))]; exact q⟩
  bor := R.bor
theorem qpNil : PPs X pos [] [] (trsOf c []) := pps_nil
theorem qpCons {k v : Expr} {ks : List (Option Expr)} {vs : List Expr} {kk : Key} {kfs : List (Key × Fx)} (hk : PE X k (tC (kV kk))) (hv : PE X v (TX .r c f)) (hr : PPs X pos ks vs (trsOf c kfs)) : PPs X pos (some k :: ks) (v :: vs) (trsOf c ((kk, f) :: kfs)) := pps_cons hk hv hr
theorem qDict {keys : List (Option Expr)} {values : List Expr} {kfs : List (Key × Fx)} (h : PPs X pos keys values (trsOf c kfs)) (hall : keys.all (·.isSome) = true := by rfl) (hl : keys.length = values.length := by rfl) (h0 : keys ≠ [] := by simp)
    (h15 : keys.length ≤ 15 := by decide) : PE X (.Dict keys values pos) (TX .r c (fDict kfs)) := peW (pe_disp h hall hl h0 h15) fun σ H Q ⟨M, p, ow, ρ, S, R, h⟩ => by
  intro a ha
  obtain ⟨z1, z2, z3⟩ := R.h0 ha
  have R0 : FR c (fun b => M b ∨ b = a) p (upd H a (.dK [])) ow σ ρ S := R.newM ha
  refine pairsRead kfs σ _ _ ⟨_, p, ow, ρ, S, R0, ?_⟩
  unfold fDict at h
  cases z : fKs kfs ρ S with
  | stuck => rw [z] at h; exact h
  | err n fs S' => rw [z] at h; exact fun C d M' p' H' hc e m R' t => h C d M' p' H' hc ((Ext.newM ha).trans e) (fun b q => m b (.inl q)) R' t
  | ok ds S1 =>
    rw [z] at h
    intro vs M1 p1 H1 e1 m1 R1 t1
    simp only [ARes.bind] at h
    split at h
    · rename_i hlen
      have rd := t1.rds
      have pa : a ∉ p := fun q => nofree ha R.dom (R.sto.inM a q) rfl
      have hd1 : H1 a = some (.dK []) := e1.keep a _ upd_same pa
      have pa1 : a ∉ p1 := e1.nin (by rw [upd_same]; simp) pa
      have ma : M1 a := m1 a (.inr rfl)
      have mu : Wx (H1 a) := by rw [hd1]; trivial
      have hv : vs.length = kfs.length := rd.length.trans hlen.1
      refine ⟨hd1, (kfs.map (·.1)).zip vs, ?_, by rw [List.length_zip, List.length_map, hv, Nat.min_self]; exact hlen.2, ?_⟩
      · have zm : ∀ (ks : List Key) (vs : List V), (ks.map kV).zip vs = (ks.zip vs).map fun kv => (kV kv.1, kv.2) := by
          intro ks
          induction ks with
          | nil => intro vs; rfl
          | cons k ks ih =>
            intro vs
            cases vs with
            | nil => rfl
            | cons v vs => rw [List.map_cons, List.zip_cons_cons, List.zip_cons_cons, List.map_cons, ih]
        rw [← zm, List.map_map]
        rfl
      · have R2 := R1.tmpO (ho := .dK (mergeK [] ((kfs.map (·.1)).zip vs))) ma pa1 z1 z2 z3 mu
        have ex := (((Ext.newM ha).trans e1).chg (o := .dK (mergeK [] ((kfs.map (·.1)).zip vs))) ha).add ha
        refine h (.ref a) M1 (p1 ++ [a]) _ ex (fun b q => m1 b (.inl q)) (R2.add ma pa1 z1 z2 z3 (o := .dct (mergeD [] ((kfs.map (·.1)).zip ds))) ⟨_, upd_same, RKs.chg ma mu _ _ (RKs.merge rd (by rw [List.length_map]; exact hlen.1.symm) (by unfold RKs; rfl))⟩) ?_
        unfold Came RD
        exact ⟨a, by rw [List.getElem?_append_right (by rw [R1.sto.len]; exact Nat.le_refl _), R1.sto.len, Nat.sub_self]; rfl, rfl⟩
    · exact h.elim
end

/-! ### repr -/
def reprD (y : PyData) : Option Str := if y.canLay0 = true ∧ y.showable = true ∧ y.depth ≤ 20 ∧ y.shown.length ≤ 1000000 then some y.shown else none
def dRepr (S : Sto) : List D → Option D
  | [d] => (reprD (d.res S).py).map .str
  | _ => none
def rRepr (K : PySem.W.Frag) : List V → Hp → VK → Prop := fun xs H Q => ∃ x d, xs = [x] ∧ Dp K H x d ∧ d.canLay0 = true ∧ d.showable = true ∧ d.depth ≤ 20 ∧ d.shown.length ≤ 1000000 ∧ Q (.str d.shown) H
theorem call_reprA {X : Cx} (gd : X.A.guards = some []) (hu : X.A.units + 64 < cLine) : CallR X (.builtin "repr") (rRepr X.K) := by
  rintro pins s σ H _ us Q J rvs ⟨x, d, rfl, dp, cl, sh, dep, len, q⟩
  obtain ⟨u, rfl, ru⟩ := vals1 rvs
  have done : ∀ (h' : Heap) (w : Tok) (tk : Tok), (∀ b o, s.heap.get? b = some o → h'.get? b = some o) → EP X pins σ Q (.str d.shown w) { s with heap := h', toks := tk } := fun h' w tk k => ⟨.str d.shown, H, J.kept (t' := tk) k, ⟨w, rfl⟩, q⟩
  obtain ⟨as, r⟩ := Dp.reads J d x u dp ru
  cases x with
  | ref a =>
    cases ru
    exact repr_of_reads' r sh (PyData.noDict_hsm (PyData.hasDict_of_canLay d cl)) gd (by omega) (fun _ _ e => e) (fun h' w tk k => done h' w tk k) (mill len)
  | non => cases dp; cases ru; exact PySem.P.repr_of_none (by have := done s.heap s.toks (s.toks + 1) fun _ _ e => e; simpa [PyData.shown] using this)
  | bl b => cases dp; cases ru; exact PySem.P.repr_of_bool (by have := done s.heap s.toks (s.toks + 1) fun _ _ e => e; simpa [PyData.shown] using this)
  | int i =>
    cases dp
    obtain ⟨t, rfl⟩ := ru
    unfold PyData.showable at sh
    exact PySem.P.repr_of_int (of_decide_eq_true sh) (by have := done s.heap s.toks (s.toks + 1) fun _ _ e => e; simpa [PyData.shown] using this)
  | str z =>
    cases dp
    obtain ⟨t, rfl⟩ := ru
    unfold PyData.shown at len
    exact PySem.P.repr_of_str (by have := done s.heap s.toks (s.toks + 1) fun _ _ e => e; simpa [PyData.shown] using this) (mill len)
  | _ => cases dp
theorem ok_repr {K : PySem.W.Frag} {mg : Str → Option Value} : CallOk .f K mg (rRepr K) dRepr := by
  intro M p H S ds vs x Q R hd t hg h
  unfold dRepr at hg
  split at hg
  · rename_i d
    obtain ⟨v, rfl, tv⟩ := hold_one t
    unfold reprD at hg
    split at hg
    · rename_i z
      cases hg
      exact ⟨v, _, rfl, res_dp R tv z.1, z.1, z.2.1, z.2.2.1, z.2.2.2, h.str R hd⟩
    · cases hg
  · cases hg
/-! ### in, not in -/
def dIn (S : Sto) (d e : D) : Option D := (e.res S).items.bind fun ds => if SeqAt.shaped (d.res S).py = true ∧ PyData.canLayAll0 (D.pys ds) = true then some (.bl ((D.pys ds).any fun z => PyData.eqv z (d.res S).py)) else none
def dNin (S : Sto) (d e : D) : Option D := (e.res S).items.bind fun ds => if SeqAt.shaped (d.res S).py = true ∧ PyData.canLayAll0 (D.pys ds) = true then some (.bl (!(D.pys ds).any fun z => PyData.eqv z (d.res S).py)) else none
def rInA (K : PySem.W.Frag) (neg : Bool) : R2 := fun x y H Q => ∃ d ds, Dp K H x d ∧ (Dp K H y (.list ds) ∨ Dp K H y (.tuple ds)) ∧ SeqAt.shaped d = true ∧ PyData.canLayAll0 ds = true ∧ Q (.bl (if neg then !ds.any fun z => PyData.eqv z d else ds.any fun z => PyData.eqv z d)) H
theorem op_inA {X : Cx} (hu : X.A.units + 65 < cLine) : OpR X (compareOp .In) (rInA X.K false) := by
  rintro pins s σ H x y v u Q J rx ry ⟨d, ds, hd, he, sd, se, q⟩
  obtain ⟨as, r1⟩ := Dp.reads J d x v hd rx
  rcases he with he | he
  · obtain ⟨bs, r2⟩ := Dp.reads J (.list ds) y u he ry
    exact SeqAt.in_list_reads r2 r1 se (SeqAt.canLay_of_shaped sd) (room_in_shaped sd hu) ⟨.bl _, H, J, rfl, q⟩
  · obtain ⟨bs, r2⟩ := Dp.reads J (.tuple ds) y u he ry
    exact SeqAt.in_tuple_reads r2 r1 se (SeqAt.canLay_of_shaped sd) (room_in_shaped sd hu) ⟨.bl _, H, J, rfl, q⟩
theorem op_ninA {X : Cx} (hu : X.A.units + 65 < cLine) : OpR X (compareOp .NotIn) (rInA X.K true) := by
  rintro pins s σ H x y v u Q J rx ry ⟨d, ds, hd, he, sd, se, q⟩
  obtain ⟨as, r1⟩ := Dp.reads J d x v hd rx
  rcases he with he | he
  · obtain ⟨bs, r2⟩ := Dp.reads J (.list ds) y u he ry
    exact SeqAt.notIn_list_reads r2 r1 se (SeqAt.canLay_of_shaped sd) (room_in_shaped sd hu) ⟨.bl _, H, J, rfl, q⟩
  · obtain ⟨bs, r2⟩ := Dp.reads J (.tuple ds) y u he ry
    exact SeqAt.notIn_tuple_reads r2 r1 se (SeqAt.canLay_of_shaped sd) (room_in_shaped sd hu) ⟨.bl _, H, J, rfl, q⟩
theorem seq_dp {K : PySem.W.Frag} {mg : Str → Option Value} {M : Addr → Prop} {p : List Addr} {H : Hp} {S : Sto} {e : D} {w : V} {ds : List D} (R : SR K mg M p H S) (t : TV K mg M p H e w) (z : (e.res S).items = some ds) (l : PyData.canLayAll0 (D.pys ds) = true) : Dp K H w (.list (D.pys ds)) ∨ Dp K H w (.tuple (D.pys ds)) := by
  obtain ⟨a, vs, rfl, r, q⟩ := res_seq R t z
  rcases q with q | q
  · exact .inl (.lst q (RDs.dp ds vs r l))
  · exact .inr (.tup q (RDs.dp ds vs r l))
theorem ok_in {K : PySem.W.Frag} {mg : Str → Option Value} : Op2OkS .f K mg (rInA K false) dIn := by
  intro M p H S d e v w x Q R hd tv tw hg h
  unfold dIn at hg
  cases z : (e.res S).items with
  | none => rw [z] at hg; cases hg
  | some ds =>
    rw [z] at hg
    simp only [Option.bind_some] at hg
    split at hg
    · rename_i y
      cases hg
      exact ⟨_, _, res_dp R tv (shaped_lay y.1), seq_dp R tw z y.2, y.1, y.2, h.bl R hd⟩
    · cases hg
theorem ok_nin {K : PySem.W.Frag} {mg : Str → Option Value} : Op2OkS .f K mg (rInA K true) dNin := by
  intro M p H S d e v w x Q R hd tv tw hg h
  unfold dNin at hg
  cases z : (e.res S).items with
  | none => rw [z] at hg; cases hg
  | some ds =>
    rw [z] at hg
    simp only [Option.bind_some] at hg
    split at hg
    · rename_i y
      cases hg
      exact ⟨_, _, res_dp R tv (shaped_lay y.1), seq_dp R tw z y.2, y.1, y.2, h.bl R hd⟩
    · cases hg
end QL

set_option Elab.async false
set_option linter.all false
set_option maxRecDepth 100000
/-! QP: x.index(y), calls of what a name holds, wrappers -/
namespace QL
open PySem PySem.Spec L2
open PyProof.Rows hiding St

/-! ### x.index(y) -/
/-- the place of the first equal one -/
def ixOf (ds : List PyData) (d : PyData) : Option Nat := ds.findIdx? fun z => PyData.eqv z d
def dIndex (S : Sto) (d e : D) : Option D := match d.res S with
  | .tup true ds => if PyData.canLayAll0 (D.pys ds) = true ∧ SeqAt.shaped (e.res S).py = true ∧ ds.length ≤ 1000000 then (ixOf (D.pys ds) (e.res S).py).map fun j => .int (j : Nat) else none
  | .lst ds => if PyData.canLayAll0 (D.pys ds) = true ∧ SeqAt.shaped (e.res S).py = true ∧ ds.length ≤ 1000000 then (ixOf (D.pys ds) (e.res S).py).map fun j => .int (j : Nat) else none
  | _ => none
theorem ixOf_some {ds : List PyData} {d : PyData} {j : Nat} (h : ixOf ds d = some j) : ∃ z, ds[j]? = some z ∧ PyData.eqv z d = true ∧ ∀ m z', m < j → ds[m]? = some z' → PyData.eqv z' d = false := by
  unfold ixOf at h
  rw [List.findIdx?_eq_some_iff_getElem] at h
  obtain ⟨hl, h1, h2⟩ := h
  refine ⟨ds[j], List.getElem?_eq_getElem hl, h1, fun m z' hm hz => ?_⟩
  have := h2 m hm
  obtain ⟨hm', rfl⟩ := List.getElem?_eq_some_iff.mp hz
  simpa using this
theorem RDs.pys_len : ∀ (ds : List D), (D.pys ds).length = ds.length
  | [] => by unfold D.pys; rfl
  | d :: ds => by unfold D.pys; rw [List.length_cons, List.length_cons, RDs.pys_len ds]
def rIxD (K : PySem.W.Frag) (t : Bool) : V → List V → Hp → VK → Prop := fun x xs H Q => ∃ a y vs d ds j, x = .ref a ∧ xs = [y] ∧ (if t = true then SqT K H a vs else SqL K H a vs) ∧ DpAll K H vs ds ∧ Dp K H y d ∧ PyData.canLayAll0 ds = true ∧ SeqAt.shaped d = true ∧ ds.length ≤ 1000000 ∧ ixOf ds d = some j ∧ Q (.int (j : Nat)) H
section
variable {X : Cx}
theorem mt_ixD (t : Bool) (hu : X.A.units + 65 < cLine) : MtR X (if t = true then "tuple.index" else "list.index") (rIxD X.K t) := by
  rintro pins s σ H x xs v us Q J rx rxs ⟨a, y, vs, d, ds, j, rfl, rfl, hs, ha, hy, cl, sd, le, hj, q⟩
  cases rx
  obtain ⟨uy, rfl, ry⟩ := vals1 rxs
  obtain ⟨bs, r1⟩ := Dp.reads J d y uy hy ry
  have hroom : X.A.units + 1 + min (PyData.depthAll ds) d.depth < cLine := room_in_shaped sd hu
  obtain ⟨z, hz, hzj, hno⟩ := ixOf_some hj
  have hl := line63
  have go : ∀ its : List Value, Vals vs its → ∃ as, ReadsAll s.heap its ds as ∧ its.length = ds.length ∧ ∀ (m : Nat) (hm : m < its.toArray.size) (z' : PyData), ds[m]? = some z' → SeqAt.readOf s.heap its.toArray[m] = z' := fun its rv => by
    obtain ⟨as, h4⟩ := Dp.readsAll J ds _ its ha rv
    have hn : its.length = ds.length := SeqAt.ReadsAll.length ds its as h4
    have hmap : its.map (SeqAt.readOf s.heap) = ds := SeqAt.readsAll_map ds its as cl h4
    refine ⟨as, h4, hn, fun m hm z' hz' => ?_⟩
    have hml : m < its.length := by simpa using hm
    rw [← hmap, List.getElem?_map, List.getElem?_eq_getElem hml] at hz'
    have e1 : SeqAt.readOf s.heap its[m] = z' := Option.some.inj hz'
    simpa using e1
  have hjd := (List.getElem?_eq_some_iff.mp hz).1
  have last : ∀ tk, EP X pins σ Q (.int (j : Nat) tk) { s with toks := s.toks + 1 } := fun tk => ⟨.int (j : Nat), H, J.tok _, ⟨_, rfl⟩, q⟩
  cases t with
  | true =>
    obtain ⟨its, rv, ⟨⟨cls, dd, data, sls⟩, ho, hc, n, hdt⟩, hlen⟩ := J.tuple hs
    simp only at hc hdt
    subst hc hdt
    obtain ⟨as, h4, hn, at_⟩ := go its rv
    have hj' : j < its.toArray.size := by simp only [List.size_toArray]; omega
    refine call_meets PySem.F.slot_tuple_index ⟨_, ho, rfl⟩ PySem.F.entry_tuple_index (PySem.F.args_tuple_index_2 _ _)
      (TI.tuple_indexAt a its.toArray n dd sls uy (fun u => PyData.eqv (SeqAt.readOf s.heap u) d) j hj' ?_ ?_) ⟨ho, SeqAt.items_eqAt (vs := its.toArray) (show ReadsAll s.heap its.toArray.toList ds as from h4) r1 cl (SeqAt.canLay_of_shaped sd) hroom, last _⟩
    · show PyData.eqv (SeqAt.readOf s.heap its.toArray[j]) d = true
      rw [at_ j hj' z hz]; exact hzj
    · intro m hm hmj
      have hmd : m < ds.length := by omega
      show PyData.eqv (SeqAt.readOf s.heap its.toArray[m]) d = false
      rw [at_ m hm _ (List.getElem?_eq_getElem hmd)]
      exact hno m _ hmj (List.getElem?_eq_getElem hmd)
  | false =>
    obtain ⟨its, rv, ⟨⟨cls, dd, data, sls⟩, n, ho, hc, hdn, hdt⟩, hlen⟩ := J.list hs
    simp only at hc hdt
    subst hc hdt
    obtain ⟨as, h4, hn, at_⟩ := go its rv
    have hj' : j < its.toArray.size := by simp only [List.size_toArray]; omega
    refine call_meets PySem.F.slot_list_index ⟨_, ho, rfl⟩ PySem.F.entry_list_index (PySem.F.args_list_index_2 _ _)
      (SeqAt.list_indexAt a its.toArray n dd sls uy (fun u => PyData.eqv (SeqAt.readOf s.heap u) d) j hj' (by omega) ?_ ?_) ⟨ho, SeqAt.items_eqAt (vs := its.toArray) (show ReadsAll s.heap its.toArray.toList ds as from h4) r1 cl (SeqAt.canLay_of_shaped sd) hroom, last _⟩
    · show PyData.eqv (SeqAt.readOf s.heap its.toArray[j]) d = true
      rw [at_ j hj' z hz]; exact hzj
    · intro m hm hmj
      have hmd : m < ds.length := by omega
      show PyData.eqv (SeqAt.readOf s.heap its.toArray[m]) d = false
      rw [at_ m hm _ (List.getElem?_eq_getElem hmd)]
      exact hno m _ hmj (List.getElem?_eq_getElem hmd)
/-- a tuple that is known to have no dict, as an object -/
theorem tupZ_is {pins : List (Addr × Obj)} {σ : St} {H : Hp} {s : Shared} {a : Addr} {vs : List V} (J : Inv X pins σ H s) (h : TupZ X.K H a vs) : s.TypeIs (.ref a) "tuple" ∧ ∀ b, Value.ref a = .ref b → ∃ ob, s.heap.get? b = some ob ∧ ob.dict = none := by
  rcases h with ⟨o, h, hd⟩ | ⟨o, its, n, hk, hc, hd, _⟩
  · obtain ⟨e1, _, its, _, o', e2, hc, _⟩ := (show ObjOk X.prog X.w H s.heap a (.frz o (.tup vs)) from J.hok a _ h)
    rw [e1] at e2; cases e2
    exact ⟨⟨o, e1, hc⟩, fun b eb => by cases eb; exact ⟨o, e1, hd⟩⟩
  · exact ⟨⟨o, J.kIn a o hk, hc⟩, fun b eb => by cases eb; exact ⟨o, J.kIn _ o hk, hd⟩⟩
def tIxM (K : PySem.W.Frag) (to te : TE) : TE := fun σ H Q => to σ H fun x H1 => ∃ a vs, x = .ref a ∧ ((H1 a = some (.lst vs) ∧ te σ H1 fun y H2 => rIxD K false x [y] H2 Q) ∨ (TupZ K H1 a vs ∧ te σ H1 fun y H2 => rIxD K true x [y] H2 Q))
theorem pe_ixM {o e : Expr} {to te : TE} {apos cpos : Pos} (hu : X.A.units + 65 < cLine) (ho : PE X o to) (he : PE X e te)
    (hbase : attributeBase o "index" X.env (eval o X.env) = eval o X.env)
    (hfew : ((backTo cpos (starEach [e] X.env)).all (fun x => !x.1) && (backToKw cpos (keywordEach [] X.env)).all (fun x => x.1.isSome)
      && decide (([e] : List Expr).length + ([] : List Keyword).length + (if ([] : List Keyword).isEmpty then 0 else 1) < 30)) = true)
    (hline : (apos.endLine == cpos.line) = true) (hs : starEach [e] X.env = (false, eval e X.env) :: starEach [] X.env) (hplain : (backTo cpos (starEach ([] : List Expr) X.env)).any (·.1) = false) :
    PE X (.Call (.Attribute o "index" apos) [e] [] cpos) (tIxM X.K to te) := by
  refine ⟨fun pins s σ H Q J h => wpAny_Call_method_late hbase hfew hline rfl (thn (ho.run pins s σ H _ J h) fun v s1 hh => ?_)⟩
  obtain ⟨x, H1, J1, r1, a, vs, rfl, q⟩ := hh
  cases r1
  have args : ∀ (t : Bool), (te σ H1 fun y H2 => rIxD X.K t (.ref a) [y] H2 Q) → wpAny (model X.prog X.w) X.A (callWith cpos (.builtin (if t = true then "tuple.index" else "list.index")) [.ref a] (backTo cpos (starEach [e] X.env)) []) (EP X pins σ Q) X.xe s1 := fun t q => by
    have hA := (pa_cons he pa_nil hs).run cpos pins s1 σ H1 (fun vs H2 => rIxD X.K t (.ref a) vs H2 Q) J1 q
    rw [hs] at hA ⊢
    refine Calls.callWith_builtin (by show (false || (backTo cpos (starEach ([] : List Expr) X.env)).any (·.1)) = false; rw [hplain] <;> rfl) (Calls.evalArgs_plain ?_)
    exact thn hA fun us s2 ⟨vs, H2, J2, r2, q2⟩ => mt_ixD t hu pins s2 σ H2 (.ref a) vs (.ref a) us Q J2 rfl r2 q2
  rcases q with ⟨hl, q⟩ | ⟨ht, q⟩
  · obtain ⟨h1, h2⟩ := tyV_is J1 (x := .ref a) (v := .ref a) rfl (.inl ⟨rfl, vs, SqL.of hl⟩)
    exact ⟨"list", "list.index", PySem.F.plainAttrs_list, PySem.F.slot_list_index, PySem.F.type_list_index, h1, h2, args false q⟩
  · obtain ⟨h1, h2⟩ := tupZ_is J1 ht
    exact ⟨"tuple", "tuple.index", PySem.F.plainAttrs_tuple, PySem.F.slot_tuple_index, PySem.F.type_tuple_index, h1, h2, args true q⟩
end
section
variable {X : Cx} {W : WB} {c : Fc} {o e : Expr} {fo fe : Fx} {apos cpos : Pos}
def fIndex (fo fe : Fx) : Fx := fun ρ S => (fo ρ S).bind fun d S => match d.res S with
  | .tup true ds => (fe ρ S).bind fun e S' => if PyData.canLayAll0 (D.pys ds) = true ∧ SeqAt.shaped (e.res S').py = true ∧ ds.length ≤ 1000000 then lift ((ixOf (D.pys ds) (e.res S').py).map fun j => .int (j : Nat)) S' else .stuck
  | .lst ds => (match d with
    | .lst _ => (fe ρ S).bind fun e S' => if PyData.canLayAll0 (D.pys ds) = true ∧ SeqAt.shaped (e.res S').py = true ∧ ds.length ≤ 1000000 then lift ((ixOf (D.pys ds) (e.res S').py).map fun j => .int (j : Nat)) S' else .stuck
    | _ => .stuck)
  | _ => .stuck
theorem qIndex (cc : Cc X.K X.mg W c) (hu : X.A.units + 65 < cLine) (ho : PE X o (TX .t c fo)) (he : PE X e (TX .t c fe))
    (hbase : attributeBase o "index" X.env (eval o X.env) = eval o X.env := by rfl)
    (hfew : ((backTo cpos (starEach [e] X.env)).all (fun x => !x.1) && (backToKw cpos (keywordEach [] X.env)).all (fun x => x.1.isSome)
      && decide (([e] : List Expr).length + ([] : List Keyword).length + (if ([] : List Keyword).isEmpty then 0 else 1) < 30)) = true := by rfl)
    (hline : (apos.endLine == cpos.line) = true := by rfl) (hs : starEach [e] X.env = (false, eval e X.env) :: starEach [] X.env := by rfl) (hplain : (backTo cpos (starEach ([] : List Expr) X.env)).any (·.1) = false := by rfl) :
    PE X (.Call (.Attribute o "index" apos) [e] [] cpos) (TX .f c (fIndex fo fe)) :=
  peW (pe_ixM hu ho he hbase hfew hline hs hplain) fun σ H Q ⟨M, p, ow, ρ, S, R, h⟩ => by
    unfold fIndex at h
    refine ⟨M, p, ow, ρ, S, R, (RX.bind (k' := .t) h).mono fun v H1 ⟨d, S1, M1, p1, e1, R1, t1, h1⟩ => ?_⟩
    cases z : d.res S1 with
    | tup y ds =>
      cases y with
      | false => simp only [z] at h1; exact h1.elim
      | true =>
        simp only [z] at h1
        obtain ⟨a, vs, rfl, g1, g2⟩ := res_tup R1.sto t1 z
        refine ⟨a, vs, rfl, .inr ⟨by rw [← cc.K]; exact g1, M1, p1, ow, ρ, S1, R1, (RX.bind (k' := .t) h1).mono fun w H2 ⟨dw, S2, M2, p2, e2, R2, t2, h2⟩ => ?_⟩⟩
        split at h2
        · rename_i hh
          cases zz : ixOf (D.pys ds) (dw.res S2).py with
          | none => rw [zz] at h2; exact h2.elim
          | some j =>
            rw [zz] at h2
            have g2' := RDs.ext e2 R1.sto.muts R1.sto.inM ds vs g2
            rw [← cc.K]
            exact ⟨a, w, vs, _, _, j, rfl, rfl, by rw [if_pos rfl]; exact e2.rdT R1.sto.muts g1.sq, RDs.dp ds vs g2' hh.1, res_dp R2.sto t2 (shaped_lay hh.2.1), hh.1, hh.2.1, by rw [RDs.pys_len]; exact hh.2.2, zz, (Ans.of R2 h2).int R2.sto R2.dom⟩
        · exact h2.elim
    | lst ds =>
      simp only [z] at h1
      cases d with
      | lst xs =>
        cases z
        obtain ⟨a, vs, rfl, g1, gp, g2⟩ := t1
        refine ⟨a, vs, rfl, .inl ⟨g1, M1, p1, ow, ρ, S1, R1, (RX.bind (k' := .t) h1).mono fun w H2 ⟨dw, S2, M2, p2, e2, R2, t2, h2⟩ => ?_⟩⟩
        split at h2
        · rename_i hh
          cases zz : ixOf (D.pys ds) (dw.res S2).py with
          | none => rw [zz] at h2; exact h2.elim
          | some j =>
            rw [zz] at h2
            have g2' := RDs.ext e2 R1.sto.muts R1.sto.inM ds vs g2
            rw [← cc.K]
            exact ⟨a, w, vs, _, _, j, rfl, rfl, by rw [if_neg Bool.false_ne_true]; exact SqL.of (e2.keep a _ g1 gp), RDs.dp ds vs g2' hh.1, res_dp R2.sto t2 (shaped_lay hh.2.1), hh.1, hh.2.1, by rw [RDs.pys_len]; exact hh.2.2, zz, (Ans.of R2 h2).int R2.sto R2.dom⟩
        · exact h2.elim
      | _ => exact h1.elim
    | _ => simp only [z] at h1; exact h1.elim
end

/-! ### calls of what a name holds -/
structure HeldG (P : Program) (w : World) (K : PySem.W.Frag) (mg : Str → Option Value) (base : Heap) (k : Nat) (n : Str) (fn : List D → Sto → Res) : Prop where
  ex : ∃ f fd ps np g, mg n = some (.ref f) ∧ FnG P w K mg base CX0 k f fd ps (spF K mg ps.length (def0 ps.length np g)) ∧ PySem.W.keepIn K (.ref f) = true ∧ Binds K fd ps [] ∧ fn = def0 ps.length np g
def tblOf : List (Str × (List D → Sto → Res)) → Str → Option (List D → Sto → Res)
  | [], _ => none
  | (n, fn) :: r, x => if x = n then some fn else tblOf r x
def HeldAll (P : Program) (w : World) (K : PySem.W.Frag) (mg : Str → Option Value) (base : Heap) (k : Nat) : List (Str × (List D → Sto → Res)) → Prop
  | [] => True
  | (n, fn) :: r => HeldG P w K mg base k n fn ∧ HeldAll P w K mg base k r
theorem HeldAll.get {P : Program} {w : World} {K : PySem.W.Frag} {mg : Str → Option Value} {base : Heap} {k : Nat} : ∀ {l : List (Str × (List D → Sto → Res))} {n : Str} {fn : List D → Sto → Res}, HeldAll P w K mg base k l → tblOf l n = some fn → HeldG P w K mg base k n fn
  | [], _, _, _, e => by cases e
  | (m, g) :: r, n, fn, h, e => by
    unfold tblOf at e
    split at e
    · rename_i z
      cases e
      rw [z]; exact h.1
    · exact HeldAll.get h.2 e
def fCallL (l : List (Str × (List D → Sto → Res))) (i : Nat) (a : Ax) : Fx := fun ρ S => match ρ[i]? with
  | some (.val (.glo n)) => (match tblOf l n with
    | some fn => fDef fn a ρ S
    | none => .stuck)
  | _ => .stuck
section
variable {X : Cx} {W : WB} {c : Fc} {k i : Nat} {x : Str} {p pos : Pos} {e : Expr} {es : List Expr} {a : Ax} {l : List (Str × (List D → Sto → Res))}
theorem pe_callLG {CX : CXT} {f : Addr} {fd : FuncData} {ps : List Str} {sp : Sp} {dvs : List V} {ds : List Value} {E : XK} {t : TA} (F : FnG X.prog X.w X.K X.mg X.base CX k f fd ps sp) (hr : Room k X.A) (gd : X.A.guards = some []) (hN : X.N[i]? = some x) (hv : Vis X.env.scope x) (hk : PySem.W.keepIn X.K (.ref f) = true) (hb : Binds X.K fd ps ds) (hd : Vals dvs ds) (hx : Passes CX X E)
    (ha : PA X (e :: es) t) (hdb : (x == ("__debug__" : Str)) = false) (hcd : (x == ("__classdict__" : Str)) = false)
    (he : starEach (e :: es) X.env = (false, eval e X.env) :: starEach es X.env) (hpl : (backTo pos (starEach es X.env)).any (·.1) = false) : PE X (.Call (.Name x p) (e :: es) [] pos) (tCallL i f sp dvs E t) where
  run pins s σ H Q J h := by
    obtain ⟨hs, ht⟩ := h
    refine wpAny_Call_Name_kw (thn ((pe_var (pos := p) hN hv hdb hcd).run pins s σ H (fun v H1 => v = .ref f ∧ H1 = H) J ⟨.ref f, hs, rfl, rfl⟩) fun u s1 hh => ?_)
    obtain ⟨v, H1, J1, r1, rfl, rfl⟩ := hh
    cases r1
    exact PySem.W.callWith_K (h₀ := X.base) J1.ok.mod.kin hk (thn (ha.run pos pins s1 σ _ _ J1 ht) fun us s2 hq => by
      obtain ⟨vs, H2, J2, r, q⟩ := hq
      exact ⟨J2.kIn, run_g F hr gd hb hd hx J2 r q⟩) he hpl
theorem qCallL (cc : Cc X.K X.mg W c) (hl : HeldAll X.prog X.w X.K X.mg X.base k l) (hr : Room k X.A) (gd : X.A.guards = some []) (ha : PA X (e :: es) (TAx false c a)) (hN : X.N[i]? = some x := by rfl) (hv : Vis X.env.scope x := by first | exact Or.inl rfl | exact Or.inr (Or.inl rfl) | exact Or.inr (Or.inr rfl))
    (hdb : (x == ("__debug__" : Str)) = false := by decide) (hcd : (x == ("__classdict__" : Str)) = false := by decide)
    (he : starEach (e :: es) X.env = (false, eval e X.env) :: starEach es X.env := by rfl) (hpl : (backTo pos (starEach es X.env)).any (·.1) = false := by rfl) : PE X (.Call (.Name x p) (e :: es) [] pos) (TX .f c (fCallL l i a)) := by
  refine ⟨fun pins s σ H Q J h => ?_⟩
  obtain ⟨M, p, ow, ρ, S, R, h⟩ := h
  unfold fCallL at h
  cases z : ρ[i]? with
  | none => rw [z] at h; exact h.elim
  | some sl =>
    rw [z] at h
    cases sl with
    | val d =>
      cases d with
      | glo n =>
        cases y : tblOf l n with
        | none => simp only [y] at h; exact h.elim
        | some fn =>
          simp only [y] at h
          obtain ⟨f, fd, ps, np, g, hm, F, kp, B, rfl⟩ := (hl.get y).ex
          obtain ⟨_, v, h1, h2⟩ := R.slots i _ z
          unfold RD at h2
          obtain ⟨u, g1, g2⟩ := h2
          rw [cc.mg, hm] at g1
          cases g1
          have ev : v = .ref f := RelV.inj g2 (show RelV (.ref f) (.ref f) from rfl)
          subst ev
          exact (pe_callLG F hr gd hN hv kp B .nil pass0 ha hdb hcd he hpl).run pins s σ H Q J ⟨h1, call0 cc.K cc.mg σ H Q ⟨M, p, ow, ρ, S, R, h⟩⟩
      | _ => exact h.elim
    | _ => exact h.elim
end
end QL

set_option Elab.async false
set_option linter.all false
set_option maxRecDepth 100000
set_option maxHeartbeats 4000000
/-! QR: operators in short -/
namespace QL
open PySem PySem.Spec L2
open PyProof.Rows hiding St
open Sem (wp)
open AutoSeq1 (wpAny_loadPart')

/-! ### () * k, t * 1: the tuple itself -/
theorem tuple_same (l : Addr) (items : Array Value) (n : Nat) (dd : Option Addr) (sl : Array (Option Value)) (x : Int) (u : Tok) (c0 : (decide (x < -(2 ^ 63)) || decide (x ≥ 2 ^ 63)) = false) (c1 : (items.isEmpty || x == 1) = true) :
    Meets (Builtin.«tuple.__mul__» ⟨[.ref l, .int x u], []⟩) (fun _ R s => s.heap.get? l = some { cls := .type "tuple", dict := dd, data := .seq items n, slots := sl } ∧ R (.ok (.ret (.ref l))) s) :=
  .of_wp fun prog w A R s h => by
    obtain ⟨hp, g, d, tk, os⟩ := s
    obtain ⟨hl, h⟩ := h
    have f1 := AutoSeq1.idx_int
    have ty : Shared.TypeIs ⟨hp, g, d, tk, os⟩ (.ref l) "tuple" := ⟨_, hl, rfl⟩
    wp_walk using wpAny_loadPart' hl
    repeat (first
      | (refine wpAny_ite_false (decide_eq_false (by rw [c0]; exact Bool.false_ne_true)) ?_; wp_walk using wpAny_loadPart' hl)
      | (refine wpAny_ite_true (decide_eq_true (by rw [c1])) ?_; wp_walk using wpAny_loadPart' hl))
    exact ⟨_, rfl, h⟩
def rRepS (K : PySem.W.Frag) : R2 := fun x y H Q => ∃ l k xs, x = .ref l ∧ y = .int k ∧ SqT K H l xs ∧ (xs = [] ∨ k = 1) ∧ -(2 ^ 63) ≤ k ∧ k < 2 ^ 63 ∧ Q (.ref l) H
theorem op_repS {X : Cx} : OpR X (binaryOp .Mult) (rRepS X.K) := by
  rintro pins s σ H x y v u Q J rx ry ⟨l, k, xs, rfl, rfl, hT, hk, h1, h2, q⟩
  cases rx
  obtain ⟨t, rfl⟩ := ry
  obtain ⟨its, r, ⟨⟨cls, dd, data, sl⟩, ho, hc, n, hd⟩, hs⟩ := J.tuple hT
  simp only at hc hd
  subst hc hd
  have c0 : (decide (k < -(2 ^ 63)) || decide (k ≥ 2 ^ 63)) = false := by
    rw [decide_eq_false (by omega), decide_eq_false (by omega)] <;> rfl
  have c1 : (its.toArray.isEmpty || k == 1) = true := by
    rcases hk with rfl | rfl
    · cases r; rfl
    · simp
  exact wpAny_binaryOp_repeat_ref (T := "tuple") (U := "int") (by decide) ⟨_, ho, rfl⟩ (fun s' => typeIs_int s' k t) noFill_tuple_mul F.fills_int_mul F.slot_int_rmul repeat_tuple F.slot_int_index.lookup
    (call_meets F.slot_int_rmul (typeIs_int s k t) F.entry_int_rmul (F.args_int_rmul_2 _ _) (int_rmul_tuple k t l its.toArray n dd sl)
      ⟨ho, rfl, ⟨_, ho, rfl⟩, call_meets F.slot_tuple_mul ⟨_, ho, rfl⟩ F.entry_tuple_mul (F.args_tuple_mul_2 _ _) (tuple_same l its.toArray n dd sl k t c0 c1) ⟨ho, .ref l, H, J, rfl, q⟩⟩)
def dRepS : D → D → Option D
  | .tup z xs, .int k => if (xs = [] ∧ -(2 ^ 63) ≤ k ∧ k < 2 ^ 63) ∨ k = 1 then some (.tup z xs) else none
  | _, _ => none
theorem ok_repS {K : PySem.W.Frag} {mg : Str → Option Value} : Op2Ok .f K mg (rRepS K) dRepS := by
  intro M p H S d e v w x Q R hd tv tw hx h
  unfold dRepS at hx
  split at hx
  · rename_i z xs k
    obtain ⟨a, vs, rfl, h2, h3⟩ := tv
    cases tw
    split at hx
    · rename_i y
      cases hx
      rcases y with ⟨y0, y1, y2⟩ | y
      · subst y0
        have h3' := h3
        unfold RDs at h3'
        exact ⟨a, k, vs, rfl, rfl, h2.sq, .inl h3', y1, y2, h.tupOf R hd h2 h3⟩
      · exact ⟨a, k, vs, rfl, rfl, h2.sq, .inr y, by omega, by omega, h.tupOf R hd h2 h3⟩
    · cases hx
  · cases hx
/-- * of all kinds -/
def dMul (d e : D) : Option D := (dMulI d e).or ((dRepS d e).or ((dRepL d e).or (dRepT d e)))
def rMulA (K : PySem.W.Frag) : R2 := fun x y H Q => (rI CMul fun i j => .int (i * j)) x y H Q ∨ (rRepS K x y H Q ∨ (rRep x y H Q ∨ rRepT K x y H Q))
theorem ok_mul {K : PySem.W.Frag} {mg : Str → Option Value} : Op2Ok .f K mg (rMulA K) dMul := Op2Ok.or ok_mulI (Op2Ok.or ok_repS (Op2Ok.or ok_repL ok_repT))
theorem op_mulA {X : Cx} : OpR X (binaryOp .Mult) (rMulA X.K) := OpR.or op_mul (OpR.or op_repS (OpR.or op_rep op_repT))

section
variable {X : Cx} {W : WB} {c : Fc} {a b e u : Expr} {es : List Expr} {pos p : Pos} {f fa fb fu : Fx} {fr : Ax}
theorem qAdd (cc : Cc X.K X.mg W c) (ha : PE X a (TX .t c fa)) (hb : PE X b (TX .t c fb)) : PE X (.BinOp a .Add b pos) (TX .f c (f2 dAdd fa fb)) := qOp (by rw [cc.K]; exact op_addA : OpR X (binaryOp .Add) (rAddA c.K)) ok_add ha hb
theorem qMul (cc : Cc X.K X.mg W c) (ha : PE X a (TX .t c fa)) (hb : PE X b (TX .t c fb)) : PE X (.BinOp a .Mult b pos) (TX .f c (f2 dMul fa fb)) := qOp (by rw [cc.K]; exact op_mulA : OpR X (binaryOp .Mult) (rMulA c.K)) ok_mul ha hb
theorem qSub (ha : PE X a (TX .t c fa)) (hb : PE X b (TX .t c fb)) : PE X (.BinOp a .Sub b pos) (TX .f c (f2 dSub fa fb)) := qOp op_sub ok_sub ha hb
theorem qMod (ha : PE X a (TX .t c fa)) (hb : PE X b (TX .t c fb)) : PE X (.BinOp a .Mod b pos) (TX .f c (f2 dMod fa fb)) := qOp op_modN ok_mod ha hb
theorem qDiv (ha : PE X a (TX .t c fa)) (hb : PE X b (TX .t c fb)) : PE X (.BinOp a .FloorDiv b pos) (TX .f c (f2 dDiv fa fb)) := qOp op_fdivN ok_div ha hb
theorem qPow (ha : PE X a (TX .t c fa)) (hb : PE X b (TX .t c fb)) : PE X (.BinOp a .Pow b pos) (TX .f c (f2 dPow fa fb)) := qOp op_pow ok_pow ha hb
theorem qNeg (ha : PE X a (TX .t c fa)) : PE X (.UnaryOp .USub a pos) (TX .f c (f1 dNeg fa)) := qUn un_neg ok_neg ha
theorem qLt (ha : PE X a (TX .t c fa)) (hb : PE X b (TX .t c fb)) : PE X (.Compare a [.Lt] [b] pos) (TX .f c (f2 dLtI fa fb)) := qCmp op_lt ok_lt ha hb (nomark b)
theorem qLe (ha : PE X a (TX .t c fa)) (hb : PE X b (TX .t c fb)) : PE X (.Compare a [.LtE] [b] pos) (TX .f c (f2 dLeI fa fb)) := qCmp op_le ok_le ha hb (nomark b)
theorem qGt (ha : PE X a (TX .t c fa)) (hb : PE X b (TX .t c fb)) : PE X (.Compare a [.Gt] [b] pos) (TX .f c (f2 dGtI fa fb)) := qCmp op_gt ok_gt ha hb (nomark b)
theorem qGe (ha : PE X a (TX .t c fa)) (hb : PE X b (TX .t c fb)) : PE X (.Compare a [.GtE] [b] pos) (TX .f c (f2 dGeI fa fb)) := qCmp op_ge ok_ge ha hb (nomark b)
theorem qLtT (ha : PE X a (TX .t c fa)) (hb : PE X b (TX .t c fb)) : PT X (.Compare a [.Lt] [b] pos) (TB c (f2 dLtI fa fb)) := qCmpT op_lt ok_lt.t ha hb (nomark b)
theorem qLeT (ha : PE X a (TX .t c fa)) (hb : PE X b (TX .t c fb)) : PT X (.Compare a [.LtE] [b] pos) (TB c (f2 dLeI fa fb)) := qCmpT op_le ok_le.t ha hb (nomark b)
theorem qGtT (ha : PE X a (TX .t c fa)) (hb : PE X b (TX .t c fb)) : PT X (.Compare a [.Gt] [b] pos) (TB c (f2 dGtI fa fb)) := qCmpT op_gt ok_gt.t ha hb (nomark b)
theorem qGeT (ha : PE X a (TX .t c fa)) (hb : PE X b (TX .t c fb)) : PT X (.Compare a [.GtE] [b] pos) (TB c (f2 dGeI fa fb)) := qCmpT op_ge ok_ge.t ha hb (nomark b)
theorem qEq (cc : Cc X.K X.mg W c) (hu : X.A.units + 65 < cLine) (ha : PE X a (TX .t c fa)) (hb : PE X b (TX .t c fb)) : PE X (.Compare a [.Eq] [b] pos) (TX .f c (f2S dEqS fa fb)) := qCmpS (by rw [cc.K]; exact op_eqA (by omega) : OpR X (compareOp .Eq) (rEqA c.K)) ok_eqS ha hb (nomark b)
theorem qNe (cc : Cc X.K X.mg W c) (hu : X.A.units + 65 < cLine) (ha : PE X a (TX .t c fa)) (hb : PE X b (TX .t c fb)) : PE X (.Compare a [.NotEq] [b] pos) (TX .f c (f2S dNeS fa fb)) := qCmpS (by rw [cc.K]; exact op_neA (by omega) : OpR X (compareOp .NotEq) (rNeA c.K)) ok_neS ha hb (nomark b)
theorem qEqT (cc : Cc X.K X.mg W c) (hu : X.A.units + 65 < cLine) (ha : PE X a (TX .t c fa)) (hb : PE X b (TX .t c fb)) : PT X (.Compare a [.Eq] [b] pos) (TB c (f2S dEqS fa fb)) := qCmpTS (by rw [cc.K]; exact op_eqA (by omega) : OpR X (compareOp .Eq) (rEqA c.K)) ok_eqS.t ha hb (nomark b)
theorem qNeT (cc : Cc X.K X.mg W c) (hu : X.A.units + 65 < cLine) (ha : PE X a (TX .t c fa)) (hb : PE X b (TX .t c fb)) : PT X (.Compare a [.NotEq] [b] pos) (TB c (f2S dNeS fa fb)) := qCmpTS (by rw [cc.K]; exact op_neA (by omega) : OpR X (compareOp .NotEq) (rNeA c.K)) ok_neS.t ha hb (nomark b)
theorem qIn (cc : Cc X.K X.mg W c) (hu : X.A.units + 65 < cLine) (ha : PE X a (TX .t c fa)) (hb : PE X b (TX .t c fb)) (hm : behindInMarks .In b = false := by with_unfolding_all rfl) : PE X (.Compare a [.In] [b] pos) (TX .f c (f2S dIn fa fb)) := qCmpS (by rw [cc.K]; exact op_inA hu : OpR X (compareOp .In) (rInA c.K false)) ok_in ha hb hm
theorem qInT (cc : Cc X.K X.mg W c) (hu : X.A.units + 65 < cLine) (ha : PE X a (TX .t c fa)) (hb : PE X b (TX .t c fb)) (hm : behindInMarks .In b = false := by with_unfolding_all rfl) : PT X (.Compare a [.In] [b] pos) (TB c (f2S dIn fa fb)) := qCmpTS (by rw [cc.K]; exact op_inA hu : OpR X (compareOp .In) (rInA c.K false)) ok_in.t ha hb hm
theorem qNin (cc : Cc X.K X.mg W c) (hu : X.A.units + 65 < cLine) (ha : PE X a (TX .t c fa)) (hb : PE X b (TX .t c fb)) (hm : behindInMarks .NotIn b = false := by with_unfolding_all rfl) : PE X (.Compare a [.NotIn] [b] pos) (TX .f c (f2S dNin fa fb)) := qCmpS (by rw [cc.K]; exact op_ninA hu : OpR X (compareOp .NotIn) (rInA c.K true)) ok_nin ha hb hm
theorem qNinT (cc : Cc X.K X.mg W c) (hu : X.A.units + 65 < cLine) (ha : PE X a (TX .t c fa)) (hb : PE X b (TX .t c fb)) (hm : behindInMarks .NotIn b = false := by with_unfolding_all rfl) : PT X (.Compare a [.NotIn] [b] pos) (TB c (f2S dNin fa fb)) := qCmpTS (by rw [cc.K]; exact op_ninA hu : OpR X (compareOp .NotIn) (rInA c.K true)) ok_nin.t ha hb hm
/-- least <= x <= most -/
theorem qLeLe (ha : PE X a (TX .t c fa)) (hb : PE X b (TX .t c fb)) (hc : PE X u (TX .t c fu)) (hm : lastMarks [.LtE, .LtE] [b, u] = false := by with_unfolding_all rfl) : PE X (.Compare a [.LtE, .LtE] [b, u] pos) (TX .f c (fChain dLeI dLeI fa fb fu)) := qChain op_le op_le ok_le.t ok_le ha hb hc hm
theorem qLeLeT (ha : PE X a (TX .t c fa)) (hb : PE X b (TX .t c fb)) (hc : PE X u (TX .t c fu)) (hm : lastMarks [.LtE, .LtE] [b, u] = false := by with_unfolding_all rfl) : PT X (.Compare a [.LtE, .LtE] [b, u] pos) (TB c (fChain dLeI dLeI fa fb fu)) := qChainT op_le op_le ok_le.t ok_le.t ha hb hc hm
theorem qLeLt (ha : PE X a (TX .t c fa)) (hb : PE X b (TX .t c fb)) (hc : PE X u (TX .t c fu)) (hm : lastMarks [.LtE, .Lt] [b, u] = false := by with_unfolding_all rfl) : PE X (.Compare a [.LtE, .Lt] [b, u] pos) (TX .f c (fChain dLeI dLtI fa fb fu)) := qChain op_le op_lt ok_le.t ok_lt ha hb hc hm
theorem qLeLtT (ha : PE X a (TX .t c fa)) (hb : PE X b (TX .t c fb)) (hc : PE X u (TX .t c fu)) (hm : lastMarks [.LtE, .Lt] [b, u] = false := by with_unfolding_all rfl) : PT X (.Compare a [.LtE, .Lt] [b, u] pos) (TB c (fChain dLeI dLtI fa fb fu)) := qChainT op_le op_lt ok_le.t ok_lt.t ha hb hc hm
/-! ### is None, is not None -/
def D.isN : D → Bool
  | .non => true
  | _ => false
def dIsN (d : D) : Option D := match d with
  | .glo _ => none
  | d => some (.bl d.isN)
def dNotN (d : D) : Option D := match d with
  | .glo _ => none
  | d => some (.bl !d.isN)
theorem tv_isN {K : PySem.W.Frag} {mg : Str → Option Value} {M : Addr → Prop} {p : List Addr} {H : Hp} {d : D} {v : V} (t : TV K mg M p H d v) (n : ∀ x, d ≠ .glo x) : decide (v = .non) = d.isN := by
  cases d with
  | non => cases t; rfl
  | bl b => cases t; rfl
  | int b => cases t; rfl
  | str b => cases t; rfl
  | tup z ds => obtain ⟨a, vs, rfl, _⟩ := t; rfl
  | lst ds => obtain ⟨a, vs, rfl, _⟩ := t; rfl
  | frz ds => obtain ⟨a, vs, rfl, _⟩ := t; rfl
  | ref k => obtain ⟨a, _, rfl⟩ := t; rfl
  | glo x => exact absurd rfl (n x)
  | adr a => cases t; rfl
theorem ok_isN {K : PySem.W.Frag} {mg : Str → Option Value} : Op1Ok .f K mg (fun x H Q => Q (.bl (decide (x = .non))) H) dIsN := by
  intro M p H S d v x Q R hd tv hx h
  have n : ∀ x, d ≠ .glo x := fun y e => by subst e; cases hx
  have e : some (.bl d.isN) = some x := by cases d <;> first | exact hx | exact absurd rfl (n _)
  cases e
  show Q (.bl (decide (v = .non))) H
  rw [tv_isN tv n]
  exact h.bl R hd
theorem ok_notN {K : PySem.W.Frag} {mg : Str → Option Value} : Op1Ok .f K mg (fun x H Q => Q (.bl (!decide (x = .non))) H) dNotN := by
  intro M p H S d v x Q R hd tv hx h
  have n : ∀ x, d ≠ .glo x := fun y e => by subst e; cases hx
  have e : some (.bl !d.isN) = some x := by cases d <;> first | exact hx | exact absurd rfl (n _)
  cases e
  show Q (.bl (!decide (v = .non))) H
  rw [tv_isN tv n]
  exact h.bl R hd
theorem qIsN {j pos'} (ha : PE X a (TX .t c fa)) : PE X (.Compare a [.Is] [.Constant .none j pos'] pos) (TX .f c (f1 dIsN fa)) := peW (pe_cmp (pc_isN ha)) fun σ H Q h => one ok_isN σ H Q h
theorem qNotN {j pos'} (ha : PE X a (TX .t c fa)) : PE X (.Compare a [.IsNot] [.Constant .none j pos'] pos) (TX .f c (f1 dNotN fa)) := peW (pe_cmp (pc_notN ha)) fun σ H Q h => one ok_notN σ H Q h
/-- a comparison's value as a test -/
theorem TB.of {t : TE} {k : Kd} (f : Fx) (w : ∀ σ H Q, TX .f c f σ H Q → t σ H Q) : ∀ σ H Q, TB c f σ H Q → t σ H fun x H1 => ∃ b, x = .bl b ∧ Q b H1 := fun σ H Q ⟨M, p, ow, ρ, S, R, h⟩ => w σ H _ ⟨M, p, ow, ρ, S, R, by
  cases z : f ρ S with
  | stuck => rw [z] at h; exact h
  | err n fs S' => rw [z] at h; exact h
  | ok d S' =>
    rw [z] at h
    cases d with
    | bl b => exact fun v M' p' H' e m R t => ⟨b, by unfold Came RD at t; exact t, h M' p' H' e m R⟩
    | _ => exact h.elim⟩
theorem qIsNT {j pos'} (ha : PE X a (TX .t c fa)) : PT X (.Compare a [.Is] [.Constant .none j pos'] pos) (TB c (f1 dIsN fa)) := ptW (pt_cmp (pc_isN ha)) (TB.of (k := .f) _ fun σ H Q h => one ok_isN σ H Q h)
theorem qNotNT {j pos'} (ha : PE X a (TX .t c fa)) : PT X (.Compare a [.IsNot] [.Constant .none j pos'] pos) (TB c (f1 dNotN fa)) := ptW (pt_cmp (pc_notN ha)) (TB.of (k := .f) _ fun σ H Q h => one ok_notN σ H Q h)
/-! ### repr(e) -/
theorem qRepr (cc : Cc X.K X.mg W c) (gd : X.A.guards = some []) (hu : X.A.units + 65 < cLine) (hm : X.mg "repr" = none) (ha : PA X (e :: es) (TAx false c fr)) (hg : Gl X "repr" := by rfl) (he : starEach (e :: es) X.env = (false, eval e X.env) :: starEach es X.env := by rfl) (hpl : (backTo pos (starEach es X.env)).any (·.1) = false := by rfl) : PE X (.Call (.Name "repr" p) (e :: es) [] pos) (TX .f c (fCall dRepr fr)) :=
  qCallB (by rw [cc.K]; exact call_reprA gd (by omega) : CallR X (.builtin "repr") (rRepr c.K)) ok_repr hg hm boot_repr ha (by decide) (by decide) he hpl
end
end QL

set_option Elab.async false
set_option linter.all false
set_option maxRecDepth 100000
/-! QS: what a printed proof leans on -/
namespace QL
open PySem PySem.Spec L2
open PyProof.Rows hiding St

/-- a constant of the text -/
def ConstG (K : PySem.W.Frag) (mg : Str → Option Value) (x : Str) (d : D) : Prop := ∃ v u, mg x = some u ∧ RelV v u ∧ ∀ M p H, RD K mg M p H d v
section
variable {X : Cx} {W : WB} {c : Fc} {x : Str} {p pos : Pos} {d : D} {e : Expr} {es : List Expr} {a : Ax} {j k : Nat} {Fn : List D → Sto → Res}
theorem qCst (cc : Cc X.K X.mg W c) (C : ConstG X.K X.mg x d) (hg : Gl X x := by rfl) (hd : (x == ("__debug__" : Str)) = false := by decide) : PE X (.Name x pos) (TX .r c (fC d)) := by
  obtain ⟨v, u, hm, r, h⟩ := C
  refine qCon hg hm r (fun M p H => ?_) hd
  rw [cc.K, cc.mg]
  exact h M p H
/-- a constant's kind -/
theorem cToF (h : PE X e (TX .r c (fC d))) (hd : d.nl = true := by rfl) : PE X e (TX .f c (fC d)) := peW h fun σ H Q ⟨M, p, ow, ρ, S, R, h⟩ => ⟨M, p, ow, ρ, S, R, fun v M' p' H' e m R' t => h v M' p' H' e m R' (by
  cases d with
  | lst ds => cases hd
  | _ => exact t)⟩
/-- a def as a value -/
theorem qDefV (cc : Cc X.K X.mg W c) (G : HeldG X.prog X.w X.K X.mg X.base j x Fn) (hg : Gl X x := by rfl) (hd : (x == ("__debug__" : Str)) = false := by decide) : PE X (.Name x pos) (TX .r c (fC (.glo x))) := by
  obtain ⟨f, fd, ps, np, g, hm, _⟩ := G.ex
  exact qGlo hg hm cc.mg (v := .ref f) rfl hd
/-- a call of a def of the text -/
theorem qCallH (cc : Cc X.K X.mg W c) (G : HeldG X.prog X.w X.K X.mg X.base j x Fn) (hr : Room k X.A) (gd : X.A.guards = some []) (ha : PA X (e :: es) (TAx false c a)) (hg : Gl X x := by rfl) (hjk : j ≤ k := by decide) (hdb : (x == ("__debug__" : Str)) = false := by decide)
    (he : starEach (e :: es) X.env = (false, eval e X.env) :: starEach es X.env := by rfl) (hpl : (backTo pos (starEach es X.env)).any (·.1) = false := by rfl) : PE X (.Call (.Name x p) (e :: es) [] pos) (TX .f c (fDef Fn a)) := by
  obtain ⟨f, fd, ps, np, g, hm, F, kp, B, rfl⟩ := G.ex
  exact qCall cc.K cc.mg F hr gd hm kp B ha hg hjk hdb he hpl
theorem HeldG.up {P : Program} {w : World} {K : PySem.W.Frag} {mg : Str → Option Value} {base : Heap} {j k : Nat} {x : Str} (G : HeldG P w K mg base j x Fn) (h : j ≤ k) : HeldG P w K mg base k x Fn := by
  obtain ⟨f, fd, ps, np, g, hm, F, kp, B, e⟩ := G.ex
  exact ⟨f, fd, ps, np, g, hm, F.up h, kp, B, e⟩
theorem pts1 {f : Fx} (h : PT X e (TB c f)) : PTs X [e] (TB c f) := pts_one h
/-- the class of what a body may lean on -/
theorem units_of {k : Nat} {A : Around} (hr : Room k A) : A.units + 65 < cLine := by have := hr.un; omega
end
/-- a def of the text, held: its body's proof -/
theorem held_mk {P : Program} {w : World} {K : PySem.W.Frag} {mg : Str → Option Value} {base : Heap} {x qual : Str} {st : Stmt} {f : Addr} {fd : FuncData} {N ps : List Str} {k : Nat} {g : Gx} (F : Fun K x qual st f fd) (Sc : FnScope N ps (defScope st)) (hm : mg x = some (.ref f)) (B : Binds K fd ps [])
    (body : ∀ (cdv : Value) (A : Around) (outer : List Env) (s : Shared) (H : Hp) (E : XK) (c : Fc), Cc K mg c.wb c → Room k (A.deeper (envOfC qual (defScope st) s.heap.objs.size f cdv)) → A.guards = some [] →
      PSs (cxOf CX0 P w K mg base N qual (defScope st) f cdv A outer s H E).nox (defBody st) (TSx c g)) : HeldG P w K mg base (k + 1) x (def0 ps.length N.length g) :=
  ⟨f, fd, ps, N.length, g, hm, qFn F Sc fun cdv A outer s H E c hK hmg => body cdv A outer s H E c ⟨hK, hmg, rfl⟩, F.kp, B, rfl⟩
end QL

set_option Elab.async false
set_option linter.all false
set_option maxRecDepth 100000
set_option maxHeartbeats 2000000
/-! QU: a lambda of one parameter handed to a def of the text -/
namespace QL
open PySem PySem.Spec L2
open PyProof.Rows hiding St

/-! ### the lambda is made -/
abbrev lamQ (X : Cx) : Str := X.env.qual ++ "<lambda>"
abbrev lamO (X : Cx) (params : Arguments) (body : Expr) (scope : Scope) (pm : Value) (k : Addr) (ct : Value) : Obj := PySem.W.kla_obj "<lambda>" (lamQ X) params body scope (cloFrom X.env.cells scope.names []) pm k ct
section
variable {X : Cx} {pins : List (Addr × Obj)} {σ : St} {H : Hp} {s : Shared}
theorem young (J : Inv X pins σ H s) {f : Addr} (hf : s.heap.objs.size ≤ f) : f ∉ frs X.stack := fun z => by
  rcases List.mem_cons.mp (J.stkSub _ z) with e | e
  · exact Nat.lt_irrefl _ (Nat.lt_of_lt_of_le (by rw [e]; exact J.lt) hf)
  · exact J.nofs hf e
theorem lamMake {c P : Addr} {params : Arguments} {body : Expr} {scope : Scope} {pos : Pos} {E : Value → Shared → Prop} {Q : Value → Shared → Prop} (J : Inv X pins σ H s) (TB : LamX.TabB X.base X.mg c P) (code : X.env.code = .ref c) (tab : LamX.TabS H P (lamQ X)) (plain : defaultsOf params X.env = ([], []))
    (caught : ∀ y ∈ scope.names, y.2 = .free → ∃ c, X.env.cells.lookup y.1 = some c)
    (q : ∀ f k pm ct H1 s1, Inv X pins σ H1 s1 → (H1 = H ∨ ∃ ps, H k = none ∧ H1 = upd (upd H P (.tbl ps)) k (LamX.CodeO k (lamQ X))) → LamX.TabS H1 P (lamQ X) → s1.heap.get? f = some (lamO X params body scope pm k ct) → H1 f = none → f ∉ frs X.stack → H1 k = some (LamX.CodeO k (lamQ X)) → Q (.ref f) s1) :
    wpAny (model X.prog X.w) X.A (eval (.Lambda params body scope pos) X.env) Q E s := by
  obtain ⟨ps, isP, ok, all⟩ := tab
  have there : s.heap.get? P = some { cls := .none, data := .fields ps } := J.hok P _ isP
  have hCl := closure_ok caught
  have hNs := J.mod.glob.keeps J.bk
  have hCd := TB.code.keeps J.bk
  have hBm := TB.bm.keeps J.bk
  refine PySem.W.kla_eval plain ?_
  cases e : codeAmong pos ps.toList with
  | some cv =>
    obtain ⟨k, rfl, isK⟩ := all pos cv e
    exact PySem.W.kla_makeFunctionHit (mg := X.mg) (c := c) (P := P) (ps := ps) hCl J.ok.glob hNs code hCd there ok e hBm fun ct g tk kp sz =>
      q _ k _ ct H _ (J.kept fun b o z => Heap.get?_push_of_some _ (kp b o z)) (.inl rfl) ⟨ps, isP, ok, all⟩ (Heap.get?_push_size _ rfl) (J.hok.fresh sz) (young J sz) isK
  | none =>
    refine PySem.W.kla_makeFunction (mg := X.mg) (c := c) (P := P) (ps := ps) hCl J.ok.glob hNs code hCd there ok e TB.gP hBm fun k ct g tk ex ge lt rec tb => ?_
    obtain ⟨k2, oc, vs, t, e2, at2, d2, v2⟩ := rec
    cases e2
    have le : s.heap.objs.size ≤ g.objs.size := by omega
    have nK : H k = none := J.hok.fresh ge
    have PK : P ≠ k := ne_of_none isP nK
    have J1 := LamX.inv_table (t' := tk) (more := #[rawInt pos.line, rawInt pos.col, .ref k]) (h' := g.push (lamO X params body scope ((X.mg "__name__").getD .none) k ct)) J isP (fun b o nb z => Heap.get?_push_of_some _ (ex b o nb z)) (Heap.get?_push_of_some _ tb) ge ⟨oc, vs, t, Heap.get?_push_of_some _ at2, d2, v2⟩
    have same : ∀ b u, H b = some (LamX.CodeO b u) → upd (upd H P (.tbl (ps ++ #[rawInt pos.line, rawInt pos.col, .ref k]))) k (LamX.CodeO k (lamQ X)) b = some (LamX.CodeO b u) := fun b u z => by
      rw [upd_ne (ne_of_none z nK), upd_ne (ne_of z isP (LamX.codeO_ne ps))]; exact z
    have fr : upd (upd H P (.tbl (ps ++ #[rawInt pos.line, rawInt pos.col, .ref k]))) k (LamX.CodeO k (lamQ X)) g.objs.size = none := by
      have ltP : P < s.heap.objs.size := Heap.lt_size there
      rw [upd_ne (Nat.ne_of_gt lt), upd_ne (Nat.ne_of_gt (Nat.lt_of_lt_of_le ltP le))]
      exact J.hok.fresh le
    refine q _ k _ ct _ _ J1 (.inr ⟨_, nK, rfl⟩) ⟨_, by rw [upd_ne PK, upd_same], ?_, fun pos' cv hcv => ?_⟩ (Heap.get?_push_size _ rfl) fr (young J le) upd_same
    · rw [Array.toList_append]
      exact PySem.TriplesOk_snoc _ _ _ _ ok
    · rw [Array.toList_append] at hcv
      rcases LamX.among_app _ ok hcv with z | z
      · obtain ⟨c0, e1, e2⟩ := all pos' cv z
        exact ⟨c0, e1, same c0 _ e2⟩
      · exact ⟨k, z, upd_same⟩
end

/-! ### its names: one parameter, captured ones, globals -/
structure LamP (sc scope : Scope) (a : Str) : Prop where
  kind : scope.kind = .function
  co : scope.isCoroutine = false
  gen : scope.isGenerator = false
  par : scope.names.lookup a = some .local
  own : ∀ y ∈ scope.names, y.2 = .local → y.1 = a
  nocell : ∀ y ∈ scope.names, y.2 ≠ .cell
  free : ∀ y ∈ scope.names, y.2 = .free → sc.names.lookup y.1 = some .cell ∨ sc.names.lookup y.1 = some .free
def lamPB (sc scope : Scope) (a : Str) : Bool :=
  decide (scope.kind = .function) && !scope.isCoroutine && !scope.isGenerator && decide (scope.names.lookup a = some .local) && scope.names.all fun y => (!decide (y.2 = .local) || decide (y.1 = a)) && !decide (y.2 = .cell) && (!decide (y.2 = .free) || decide (sc.names.lookup y.1 = some .cell) || decide (sc.names.lookup y.1 = some .free))
theorem lamP_by {sc scope : Scope} {a : Str} (h : lamPB sc scope a = true) : LamP sc scope a := by
  unfold lamPB at h
  simp only [Bool.and_eq_true, Bool.or_eq_true, Bool.not_eq_true', decide_eq_true_eq, decide_eq_false_iff_not, List.all_eq_true] at h
  obtain ⟨⟨⟨⟨h1, h2⟩, h3⟩, h4⟩, h5⟩ := h
  refine ⟨h1, h2, h3, h4, fun y hy e => ?_, fun y hy => (h5 y hy).1.2, fun y hy e => ?_⟩
  · rcases (h5 y hy).1.1 with z | z
    · exact absurd e z
    · exact z
  · rcases (h5 y hy).2 with (z | z) | z
    · exact absurd e z
    · exact .inl z
    · exact .inr z
section
variable {X : Cx} {pins : List (Addr × Obj)} {σ : St} {H HZ : Hp} {s s1 : Shared} {scope : Scope} {a : Str}
theorem LamP.has (L : LamP X.env.scope scope a) (ok : X.Ok) : ∀ y ∈ scope.names, y.2 = .free → ∃ c, X.env.cells.lookup y.1 = some c := fun y hy e => (L.free y hy e).elim (fun k => ok.has _ (.inl k)) fun k => ok.has _ (.inr k)
/-- the captured cells -/
theorem clo_get (L : LamP X.env.scope scope a) (ok : X.Ok) {y : Str} {c : Addr} (e : (cloFrom X.env.cells scope.names []).lookup y = some c) : X.env.cells.lookup y = some c := by
  rcases cloFrom_mem (PySem.mem_of_lookup e) with z | ⟨z, e2⟩
  · cases z
  · obtain ⟨c1, hc⟩ := L.has ok _ z rfl
    have hc : X.env.cells.lookup y = some c1 := hc
    rw [hc] at e2 ⊢
    rw [e2]; rfl
theorem clo_has {y : Str} (e : scope.names.lookup y = some .free) : ∃ c, (cloFrom X.env.cells scope.names []).lookup y = some c := mem_lookup (cloFrom_has (cells := X.env.cells) (acc := []) (PySem.mem_of_lookup e))
theorem lamStart {A : Around} {outer : List Env} {E : XK} {f k : Addr} {g : Heap} {tk i : Nat} {v : V} {u : Value} (J : Inv X pins σ H s) (hN : X.N.Nodup) (hi : X.N[i]? = some a) (L : LamP X.env.scope scope a) (rv : RelV v u) (e0 : Env0 X.prog X.w X.K X.mg X.base A outer s1 HZ) (hd : A.handled = none)
    (un : Un (frs X.stack) [] H HZ s.heap s1.heap) (ns : g.Ns s1.heap.objs.size fun y => ([(a, u)] : List (Str × Value)).reverse.lookup y) (kp : ∀ b o, s1.heap.get? b = some o → g.get? b = some o) :
    Inv (LamX.lamCx X A outer s1 HZ E scope f k) [] (σ.set i (some v)) HZ { s1 with heap := g, toks := tk } := by
  have cellK : ∀ {y c}, (cloFrom X.env.cells scope.names []).lookup y = some c → ∀ v, s.heap.IsCell c v → g.IsCell c v := fun {y c} e v ⟨o, ho, hd⟩ => by
    obtain ⟨sl, q⟩ := un.any ho (J.freeC y c (clo_get L J.ok e)) (by simp)
    exact ⟨_, kp _ _ q, hd⟩
  have il : i < σ.length := by rw [J.len]; exact (List.getElem?_eq_some_iff.mp hi).1
  have noex : ∀ b : Addr, b ∉ ([] : List Addr) := fun b z => nomatch z
  have okL : (LamX.lamCx X A outer s1 HZ E scope f k).Ok :=
    { mod := e0.mod, kind := L.kind, glob := rfl, blt := rfl, above := Nat.le_refl _
      inj := fun y z c e1 e2 => J.ok.inj y z c (clo_get L J.ok e1) (clo_get L J.ok e2)
      has := fun y hy => by
        rcases (show scope.names.lookup y = some .cell ∨ scope.names.lookup y = some .free from hy) with z | z
        · exact absurd rfl (L.nocell _ (PySem.mem_of_lookup z))
        · exact clo_has z
      cab := fun y c z _ => by cases (show false = true from z)
      hd := fun _ => hd, frames := Around.frames_deeper e0.frames, stk := .inr ⟨rfl, rfl⟩, exf := fun b z => absurd z (noex b), bs := e0.bs, bsz := e0.bsz, noex := fun b _ _ => noex b, exfs := fun b z => absurd z (noex b), funs := e0.funs, frf := e0.frf }
  refine { ok := okL, os := rfl, bare := e0.bare, base := Un.kept kp, loc := ⟨_, ns, fun j y w h1 h2 h3 => ?_⟩, cell := fun y c e => ?_, free := e0.hok.fresh (Nat.le_refl _), freeC := fun y c e => ?_, pin := fun p hp => (by cases (show p ∈ ([] : List (Addr × Obj)) from hp)), hok := e0.hok.kept kp, len := by rw [List.length_set]; exact J.len }
  · have h1 : X.N[j]? = some y := h1
    rcases (show Vis scope y from h3) with z | z | z
    · have ey := L.own _ (PySem.mem_of_lookup z) rfl
      have ey : y = a := ey
      subst ey
      have ej : j = i := nd_ix hN h1 hi
      subst ej
      rw [List.getElem?_set_self il] at h2
      cases h2
      exact ⟨u, rv, .inl ⟨z, by simp⟩⟩
    · exact absurd rfl (L.nocell _ (PySem.mem_of_lookup z))
    · have nj : j ≠ i := fun e => by
        subst e
        rw [hi] at h1; cases h1
        rw [L.par] at z; cases z
      rw [List.getElem?_set_ne (Ne.symm nj)] at h2
      obtain ⟨m, hn, hl⟩ := J.loc
      have vis : Vis X.env.scope y := (L.free _ (PySem.mem_of_lookup z) rfl).elim (fun z => .inr (.inl z)) fun z => .inr (.inr z)
      obtain ⟨w', r, q⟩ := hl j y w h1 h2 vis
      obtain ⟨c2, e2⟩ := clo_has (X := X) z
      refine ⟨w', r, .inr ⟨.inr z, c2, e2, ?_⟩⟩
      rcases q with ⟨k', _⟩ | ⟨_, c3, e', z'⟩
      · have k' : X.env.scope.names.lookup y = some .local := k'
        rcases L.free _ (PySem.mem_of_lookup z) rfl with k2 | k2 <;> rw [show X.env.scope.names.lookup y = _ from k2] at k' <;> cases k'
      · rw [clo_get L J.ok e2] at e'
        cases e'
        exact cellK e2 _ z'
  · obtain ⟨w', z⟩ := J.cell y c (clo_get L J.ok e)
    exact ⟨w', cellK e _ z⟩
  · obtain ⟨w', o, ho, _⟩ := J.cell y c (clo_get L J.ok e)
    exact un.free c o ho (J.freeC y c (clo_get L J.ok e)) (by simp)
end

/-! ### what it sees of the maker's slots -/
def lamSl : Sl → Sl
  | .own ds => .bor ds
  | s => s
def lamRho (ρ : Rho) (i : Nat) (d : D) : Rho := (ρ.map lamSl).set i (slOf d)
section
variable {c : Fc} {M M1 : Addr → Prop} {p p1 : List Addr} {H H1 : Hp} {S S1 : Sto} {ow : Nat → Option Addr} {σ : St} {ρ : Rho} {d : D} {v : V}
theorem FR.lamSlot (R : FR c M p H ow σ ρ S) (e : Ext M p H M1 p1 H1) (t : TV c.K c.mg M1 p1 H1 d v) (i : Nat) (hi : i < ρ.length) : ∀ (j : Nat) (s : Sl), (lamRho ρ i d)[j]? = some s → SLR c.K c.mg M1 p1 H1 none ((σ.set i (some v))[j]?) s := fun j s hs => by
  unfold lamRho at hs
  by_cases ej : j = i
  · subst ej
    rw [List.getElem?_set_self (by rw [List.length_map]; exact hi)] at hs
    rw [List.getElem?_set_self (by rw [R.len]; exact hi)]
    cases hs
    cases d with
    | lst ds => exact ⟨rfl, v, rfl, t⟩
    | _ => exact ⟨rfl, v, rfl, TV.rd t rfl⟩
  · rw [List.getElem?_set_ne (Ne.symm ej), List.getElem?_map] at hs
    rw [List.getElem?_set_ne (Ne.symm ej)]
    cases es : ρ[j]? with
    | none => rw [es] at hs; cases hs
    | some s0 =>
      rw [es] at hs
      cases hs
      have q := R.slots j s0 es
      cases s0 with
      | emp => exact rfl
      | val d0 => obtain ⟨_, w, h1, h2⟩ := q; exact ⟨rfl, w, h1, RD.ext e R.sto.muts R.sto.inM d0 w h2⟩
      | own ds =>
        obtain ⟨a, vs, h0, h1, h2, h3⟩ := q
        have na := (R.own j a h0).2.1
        exact ⟨rfl, .ref a, h1, a, vs, rfl, e.keep a _ h2 na, e.nin (by rw [h2]; simp) na, RDs.ext e R.sto.muts R.sto.inM ds vs h3⟩
      | bor ds => obtain ⟨_, w, h1, h2⟩ := q; exact ⟨rfl, w, h1, TV.ext e R.sto.muts R.sto.inM _ w h2⟩
theorem FR.lam {W : WX} (R : FR c M p H ow σ ρ S) (e : Ext M p H M1 p1 H1) (s : SR c.K c.mg M1 p1 H1 S1) (dom : ∀ a, M1 a → H1 a ≠ none) (t : TV c.K c.mg M1 p1 H1 d v) (i : Nat) (hi : i < ρ.length) : FR (fc0 c.K c.mg H1 p1 M1 W) M1 p1 H1 (fun _ => none) (σ.set i (some v)) (lamRho ρ i d) S1 where
  ext := .refl
  M0 := fun _ m => m
  sto := s
  dom := dom
  own := fun _ _ h => nomatch h
  inj := fun _ _ _ h => nomatch h
  slots := R.lamSlot e t i hi
  len := by unfold lamRho; rw [List.length_set, List.length_set, List.length_map]; exact R.len
  pin := fun _ _ h => nomatch h
  pinM := fun _ h => absurd rfl h
  pinO := fun _ _ h => nomatch h
  pinP := fun _ _ _ h => nomatch h
  pinp := ⟨p1, rfl⟩
  m0d := dom
  oln := fun _ _ h => nomatch h
  bor := fun j ds hs => by
    obtain ⟨_, w, h1, a, vs, rfl, h2, _⟩ := R.lamSlot e t i hi j _ hs
    exact ⟨a, h1, fun z => by
      have z : H1 a = none := z
      rw [h2] at z; cases z⟩
end
/-! ### the callee calls what it got -/
def fAct (i : Nat) (f : Addr) (fn : List D → Sto → Res) (a : Ax) : Fx := fun ρ S => match ρ[i]? with
  | some (.val (.adr b)) => if b = f then (a ρ S).bind fn else .stuck
  | _ => .stuck
def fn1 (ρ : Rho) (j : Nat) (fb : Fx) : List D → Sto → Res := fun ds S => match ds with
  | [d] => fb (lamRho ρ j d) S
  | _ => .stuck
abbrev calleeCx (X : Cx) (N : List Str) (qg : Str) (sg : Scope) (g : Addr) (cdg : Value) (s : Shared) (H : Hp) : Cx := (cxOf CX0 X.prog X.w X.K X.mg X.base N qg sg g cdg X.A X.stack s H E0).nox
theorem actP {X : Cx} {pins : List (Addr × Obj)} {σ : St} {H : Hp} {s : Shared} {c0 c : Fc} {M : Addr → Prop} {p : List Addr} {ow : Nat → Option Addr} {ρ : Rho} {S : Sto} {j i n : Nat} {a x : Str} {params : Arguments} {body : Expr} {scope : Scope} {f k g : Addr} {pm ct cdg : Value} {Ng : List Str} {qg : Str} {sg : Scope} {fb : Fx} {aa : Ax} {e : Expr} {q1 q2 : Pos}
    (J : Inv X pins σ H s) (R : FR c0 M p H ow σ ρ S) (cc0 : c0.K = X.K ∧ c0.mg = X.mg) (hN : X.N.Nodup) (hj : X.N[j]? = some a) (L : LamP X.env.scope scope a) (hf : s.heap.get? f = some (lamO X params body scope pm k ct)) (hfn : H f = none) (hfr : f ∉ frs X.stack) (isK : H k = some (LamX.CodeO k (lamQ X)))
    (bind : ∀ u, bindArgs (PySem.W.kla_fn "<lambda>" (lamQ X) params body scope (cloFrom X.env.cells scope.names []) pm (.ref k) ct) ⟨[u], []⟩ = pure [(a, u)])
    (hr : Room (n + 1) (X.A.deeper (envOfC qg sg s.heap.objs.size g cdg))) (gd : X.A.guards = some [])
    (hbody : ∀ (A : Around) (outer : List Env) (s1 : Shared) (H1 : Hp) (c : Fc), Cc X.K X.mg c.wb c → Room n (A.deeper (LamX.lamEnv X scope s1.heap.objs.size f k)) → A.guards = some [] → PE (LamX.lamCx X A outer s1 H1 E0 scope f k) body (TX .f c fb))
    (cc : Cc X.K X.mg ⟨c.W, H, p, M⟩ c) (hi : Ng[i]? = some x) (hv : Vis sg x) (hd : (x == ("__debug__" : Str)) = false) (hcd : (x == ("__classdict__" : Str)) = false)
    (ha : PA (calleeCx X Ng qg sg g cdg s H) [e] (TAx false c aa))
    (he : starEach [e] (calleeCx X Ng qg sg g cdg s H).env = (false, eval e (calleeCx X Ng qg sg g cdg s H).env) :: starEach [] (calleeCx X Ng qg sg g cdg s H).env) : PE (calleeCx X Ng qg sg g cdg s H) (.Call (.Name x q1) [e] [] q2) (TX .f c (fAct i f (fn1 ρ j fb) aa)) := by
  refine ⟨fun pinsZ sZ σZ HZ Q IZ ⟨MZ, pZ, owZ, ρZ, SZ, RZ, hZ⟩ => ?_⟩
  have hst : σZ[i]? = some (some (.ref f)) ∧ RX .f c MZ pZ HZ owZ σZ ρZ ((aa ρZ SZ).bind (fn1 ρ j fb)) Q := by
    unfold fAct at hZ
    cases z : ρZ[i]? with
    | none => rw [z] at hZ; exact hZ.elim
    | some sl =>
      rw [z] at hZ
      cases sl with
      | val d =>
        cases d with
        | adr b =>
          by_cases eb : b = f
          · subst eb
            simp only [if_true] at hZ
            obtain ⟨_, v, h1, h2⟩ := RZ.slots i _ z
            unfold RD at h2
            subst h2
            exact ⟨h1, hZ⟩
          · simp only [if_neg eb] at hZ; exact hZ.elim
        | _ => exact hZ.elim
      | _ => exact hZ.elim
  obtain ⟨hs, hq⟩ := hst
  refine wpAny_Call_Name_kw (thn ((pe_var (pos := q1) (i := i) hi hv hd hcd).run pinsZ sZ σZ HZ (fun v H1 => v = .ref f ∧ H1 = HZ) IZ ⟨.ref f, hs, rfl, rfl⟩) fun u s1 hh => ?_)
  obtain ⟨v0, H1, I1, r1, rfl, rfl⟩ := hh
  cases r1
  have objAt : ∀ {pinsY : List (Addr × Obj)} {σY : St} {HY : Hp} {sY : Shared}, Inv (calleeCx X Ng qg sg g cdg s H) pinsY σY HY sY → sY.heap.get? f = some (lamO X params body scope pm k ct) := fun {_ _ _ _} IY => IY.base.keep f _ hf hfn hfr fun z => nomatch (show f ∈ ([] : List Addr) from z)
  refine PySem.W.callWith_F ⟨_, _, _, _, objAt I1⟩ (thn (ha.run q2 pinsZ s1 σZ _ _ I1 ⟨MZ, pZ, owZ, ρZ, SZ, RZ, RA.bind (b := false) hq⟩) fun us s2 hh => ?_) he (by rfl)
  obtain ⟨vs, H2, I2, rvs, ds, S1, M1, p1, e1, R1, t1, h1⟩ := hh
  have of2 := objAt I2
  refine ⟨⟨_, _, _, _, of2⟩, ?_⟩
  match ds, h1, t1 with
  | [], h1, _ => exact h1.elim
  | _ :: _ :: _, h1, _ => exact h1.elim
  | [d], h1, t1 =>
    obtain ⟨v, rfl, tv⟩ := hold_one t1
    obtain ⟨u, rfl, ru⟩ := vals1 rvs
    have un : Un (frs X.stack) [] H H2 s.heap s2.heap := I2.base
    have hb := cc.W
    have eH : c.H0 = H := congrArg WB.H0 hb
    have ep : c.p0 = p := congrArg WB.p0 hb
    have eM : c.M0 = M := congrArg WB.M0 hb
    have ext : Ext M p H M1 p1 H2 := by have z := R1.ext; rw [eH, ep, eM] at z; exact z
    have kp : k ∉ p := fun z => by have := R.sto.muts k z; rw [isK] at this; exact this
    obtain ⟨⟨oc, ws, t, hoc, hdc, hvc⟩, _, _⟩ := I2.hok k _ (ext.keep k _ isK kp)
    have hj' : j < ρ.length := by rw [← R.len, J.len]; exact (List.getElem?_eq_some_iff.mp hj).1
    have sK : SR c0.K c0.mg M1 p1 H2 S1 := by rw [cc0.1, cc0.2, ← cc.K, ← cc.mg]; exact R1.sto
    have tK : TV c0.K c0.mg M1 p1 H2 d v := by rw [cc0.1, cc0.2, ← cc.K, ← cc.mg]; exact tv
    have RL := R.lam (W := fun C dd _ H' => c.W C dd σZ H') ext sK R1.dom tK j hj'
    have rc : codeAny (model X.prog X.w) (X.A.deeper (envOfC qg sg s.heap.objs.size g cdg)) (.call (.ref f) ⟨[u], []⟩) (CR (L2.CX X.prog X.w) (envOfC qg sg s.heap.objs.size g cdg :: X.stack) X.prog X.w H2 s2 Q E0) s2 := by
      refine PySem.W.kla_callFunE hr.depth of2 rfl L.co L.gen rfl ⟨k, oc, ws, t, rfl, hoc, hdc, hvc⟩ ?_
      rw [bind]
      refine wpAny_pure (wpAny_newFunctionEnv L.nocell (fun y hy => by
        rw [List.mem_singleton.mp hy]
        exact L.par) (fun h₁ hns hsb => ⟨I2.nolimit.fresh _ hsb, ?_⟩) L.kind)
      show codeAny _ _ (.expr body (LamX.lamEnv X scope s2.heap.objs.size f k)) _ _
      have keep : ∀ b o, s2.heap.get? b = some o → h₁.get? b = some o := fun b o z => hsb.extBut b o (Nat.ne_of_lt (Heap.lt_size z)) (Heap.get?_push_of_some _ z)
      have JL := lamStart (A := X.A.deeper (envOfC qg sg s.heap.objs.size g cdg)) (outer := envOfC qg sg s.heap.objs.size g cdg :: X.stack) (E := E0) (f := f) (k := k) (tk := s2.toks + ([(a, u)] : List (Str × Value)).length) J hN hj L ru I2.env0 hr.hd un hns keep
      refine PySem.W.kla_codeExpr (wpAny_mono ((hbody _ _ s2 H2 (fc0 c0.K c0.mg H2 p1 M1 fun C dd _ H' => c.W C dd σZ H') ⟨cc0.1, cc0.2, rfl⟩ (hr.deeper _) gd).run [] _ _ H2 Q JL ⟨M1, p1, _, _, S1, RL, ?_⟩) (fun v' s' hq' => ?_) fun e s' hq' => hq')
      · have h1 : RX .f c M1 p1 H2 owZ σZ ρZ (fb (lamRho ρ j d) S1) Q := h1
        cases z : fb (lamRho ρ j d) S1 with
        | stuck => rw [z] at h1; exact h1
        | err nn fs S' =>
          rw [z] at h1
          intro C dd M' p' H' hc e' m' R' t'
          have eK : (fc0 c0.K c0.mg H2 p1 M1 fun C dd _ H' => c.W C dd σZ H').K = c.K := cc0.1.trans cc.K.symm
          have eG : (fc0 c0.K c0.mg H2 p1 M1 fun C dd _ H' => c.W C dd σZ H').mg = c.mg := cc0.2.trans cc.mg.symm
          have s' := R'.sto
          rw [eK, eG] at s' t'
          rw [eG] at hc
          exact h1 C dd M' p' H' hc e' m' (R1.step e' m' s' R'.dom) t'
        | ok d' S' =>
          rw [z] at h1
          intro y M' p' H' e' m' R' t'
          have eK : (fc0 c0.K c0.mg H2 p1 M1 fun C dd _ H' => c.W C dd σZ H').K = c.K := cc0.1.trans cc.K.symm
          have eG : (fc0 c0.K c0.mg H2 p1 M1 fun C dd _ H' => c.W C dd σZ H').mg = c.mg := cc0.2.trans cc.mg.symm
          have s' := R'.sto
          rw [eK, eG] at s' t'
          exact h1 y M' p' H' e' m' (R1.step e' m' s' R'.dom) t'
      · obtain ⟨w', H', J', rv, q⟩ := hq'
        exact ⟨w', H', J'.os, J'.bare, J'.base, J'.hok, rv, q⟩
    refine wpAny_call (codeAny_mono rc fun r s' hq' => ?_)
    cases r with
    | error e =>
      obtain ⟨_, _, _, _, _, _, _, _, _, _, _, _, z⟩ := hq'
      exact z.elim
    | ok fl =>
      cases fl with
      | ret u => exact I2.after hq'
      | next => exact False.elim hq'
      | brk => exact False.elim hq'
      | cont => exact False.elim hq'
end QL

set_option Elab.async false
set_option linter.all false
set_option maxRecDepth 100000
set_option maxHeartbeats 2000000
/-! QV: x(e, lambda a: ..) -/
namespace QL
open PySem PySem.Spec L2
open PyProof.Rows hiding St

theorem upd_comm {H : Hp} {a b : Addr} {o u : HO} (h : a ≠ b) : upd (upd H a o) b u = upd (upd H b u) a o := by
  funext x
  unfold upd
  by_cases h1 : x = a
  · subst h1; simp [h]
  · simp [h1]
/-- the code object of the def at f -/
def CodeOf (K : PySem.W.Frag) (f : Addr) (cdv : Value) : Prop := ∃ oc od fd osl, K.lookup f = some ⟨oc, od, .func fd, osl⟩ ∧ fd.code = cdv
/-- one run of a def, its body known for that very state -/
theorem runBody {P : Program} {w : World} {K : PySem.W.Frag} {mg : Str → Option Value} {base : Heap} {CX : CXT} {x qual : Str} {st : Stmt} {f : Addr} {fd : FuncData} {N ps : List Str} {k : Nat} (F : Fun K x qual st f fd) (S : FnScope N ps (defScope st))
    {A : Around} {outer : List Env} {s : Shared} {H : Hp} {args : Args} {us : List Value} {vs : List V} {Q : VK} {E : XK} (hr : Room (k + 1) A) (e0 : Env0 P w K mg base A outer s H) (hb : BindsTo s fd args (ps.zip us)) (rv : Vals vs us) (len : vs.length = ps.length)
    (body : ∀ cdv, CodeOf K f cdv → Room k (A.deeper (envOfC qual (defScope st) s.heap.objs.size f cdv)) → ∃ t, PSs (cxOf CX P w K mg base N qual (defScope st) f cdv A outer s H E) (defBody st) t ∧ t { nx := fun _ H' => Q .non H', rt := Q } (L2.start N vs) H) :
    codeAny (model P w) A (.call (.ref f) args) (CR CX outer P w H s Q E) s := by
  obtain ⟨oc, od, kV, doc, pm, an, cdv, ct, osl, rfl, lk, hcd⟩ := F.ex
  have stays : ∀ b o, base.get? b = some o → s.heap.get? b = some o := fun b o e => (e0.bs b o e).1
  have KX := e0.mod.kin.keeps stays
  have kinds : ∀ y ∈ ps.zip us, (defScope st).names.lookup y.1 = some .local ∨ ((defScope st).names.lookup y.1 = some .cell ∧ ((cellsFrom (s.heap.objs.size + 1) (defScope st).names []).lookup y.1).isSome = true) := by
    rintro ⟨n, v⟩ hy
    exact (S.par n (List.of_mem_zip hy).1).imp_right fun q => ⟨q, PySem.W.cellsFrom_some _ _ _ (.inl q)⟩
  refine codeAny_call_function hr.depth (KX _ _ lk) rfl S.co S.gen rfl (PySem.W.codeRec_of KX hcd) (hb _ _ _ _ (wpAny_newFunctionEnv_cells S.kind kinds fun env he s1 entered => ?_))
  subst he
  obtain ⟨t, ht, hq⟩ := body cdv ⟨oc, od, _, osl, lk, rfl⟩ (hr.deeper _)
  have J := inv_start (CX := CX) (E := E) S hr.hd e0 len rv entered
  refine ⟨(e0.mod.nolimit.keeps stays).keeps entered.toInCall.keep, codeAny_func (wpAny_mono (ht.run [] s1 (L2.start N vs) H _ J hq) (fun fl s' hs => ?_) fun _ _ z => z)⟩
  cases fl with
  | next =>
    obtain ⟨_, G, J', q⟩ := hs
    exact ⟨.non, G, J'.os, J'.bare, J'.base, J'.hok, rfl, q⟩
  | ret u =>
    obtain ⟨v, _, G, J', r', q⟩ := hs
    exact ⟨v, G, J'.os, J'.bare, J'.base, J'.hok, r', q⟩
  | brk => exact hs.elim fun _ h => h.elim fun _ h => h.2.elim
  | cont => exact hs.elim fun _ h => h.elim fun _ h => h.2.elim

/-- the table of the def me stands in the store -/
def hasTab (me : Str) (S : Sto) : Bool := S.any fun o => match o with
  | .tab y => y == me
  | _ => false
theorem hasTab_at {me : Str} {S : Sto} (h : hasTab me S = true) : ∃ n : Nat, S[n]? = some (MO.tab me) := by
  unfold hasTab at h
  rw [List.any_eq_true] at h
  obtain ⟨o, ho, e⟩ := h
  obtain ⟨n, hn⟩ := List.mem_iff_getElem?.mp ho
  cases o with
  | tab y => exact ⟨n, by rw [hn, show y = me from by simpa using e]⟩
  | _ => cases e
def fLam (me : Str) (Fn : (List D → Sto → Res) → D → Sto → Res) (j : Nat) (fe fb : Fx) : Fx := fun ρ S => (fe ρ S).bind fun d S => if hasTab me S = true then Fn (fn1 ρ j fb) d S else .stuck
theorem qLam {X : Cx} {c : Fc} {W : WB} {e : Expr} {fe fb : Fx} {x me a a1 a2 : Str} {params : Arguments} {body : Expr} {scope : Scope} {j n : Nat} {p lpos pos : Pos} {g : Addr} {fdg : FuncData} {st : Stmt} {Ng : List Str} {Fn : (List D → Sto → Res) → D → Sto → Res} {gfb : (List D → Sto → Res) → Addr → Gx}
    (cc : Cc X.K X.mg W c) (he : PE X e (TX .t c fe)) (hN : X.N.Nodup) (gd : X.A.guards = some []) (hr : Room (n + 2) X.A)
    (G : Fun X.K x x st g fdg) (Sg : FnScope Ng [a1, a2] (defScope st)) (hm : X.mg x = some (.ref g)) (B : Binds X.K fdg [a1, a2] []) (hA2 : Ng[1]? = some a2) (hV2 : Vis (defScope st) a2) (hd : (a2 == ("__debug__" : Str)) = false) (hcd : (a2 == ("__classdict__" : Str)) = false)
    (hF : ∀ fn f d S, def0 2 Ng.length (gfb fn f) [d, .adr f] S = Fn fn d S)
    (hg : ∀ (cdv : Value) (A : Around) (outer : List Env) (s : Shared) (H : Hp) (c : Fc) (fn : List D → Sto → Res) (f : Addr), Cc X.K X.mg c.wb c → Room (n + 1) (A.deeper (envOfC x (defScope st) s.heap.objs.size g cdv)) → A.guards = some [] →
      (∀ c', Cc X.K X.mg c.wb c' → ∀ (e : Expr) (aa : Ax) (q1 q2 : Pos), PA (cxOf CX0 X.prog X.w X.K X.mg X.base Ng x (defScope st) g cdv A outer s H E0).nox [e] (TAx false c' aa) → (starEach [e] (cxOf CX0 X.prog X.w X.K X.mg X.base Ng x (defScope st) g cdv A outer s H E0).nox.env = (false, eval e (cxOf CX0 X.prog X.w X.K X.mg X.base Ng x (defScope st) g cdv A outer s H E0).nox.env) :: starEach [] (cxOf CX0 X.prog X.w X.K X.mg X.base Ng x (defScope st) g cdv A outer s H E0).nox.env) →
        PE (cxOf CX0 X.prog X.w X.K X.mg X.base Ng x (defScope st) g cdv A outer s H E0).nox (.Call (.Name a2 q1) [e] [] q2) (TX .f c' (fAct 1 f fn aa))) →
      PSs (cxOf CX0 X.prog X.w X.K X.mg X.base Ng x (defScope st) g cdv A outer s H E0).nox (defBody st) (TSx c (gfb fn f)))
    (own : ∀ P, TabAt X.K X.mg me P → ∃ c, X.env.code = .ref c ∧ LamX.TabB X.base X.mg c P) (hq : lamQ X = me ++ ".<locals>." ++ "<lambda>") (hj : X.N[j]? = some a) (L : LamP X.env.scope scope a) (plain : defaultsOf params X.env = ([], []))
    (bind : ∀ (pm k ct u : Value), bindArgs (PySem.W.kla_fn "<lambda>" (lamQ X) params body scope (cloFrom X.env.cells scope.names []) pm k ct) ⟨[u], []⟩ = pure [(a, u)])
    (hbody : ∀ (A : Around) (outer : List Env) (s1 : Shared) (H1 : Hp) (c : Fc) (f k : Addr), Cc X.K X.mg c.wb c → Room n (A.deeper (LamX.lamEnv X scope s1.heap.objs.size f k)) → A.guards = some [] → PE (LamX.lamCx X A outer s1 H1 E0 scope f k) body (TX .f c fb))
    (hGl : Gl X x := by rfl) (hdb : (x == ("__debug__" : Str)) = false := by decide)
    (h1 : starEach [e, .Lambda params body scope lpos] X.env = (false, eval e X.env) :: starEach [.Lambda params body scope lpos] X.env := by rfl) (h2 : starEach [.Lambda params body scope lpos] X.env = (false, eval (.Lambda params body scope lpos) X.env) :: starEach [] X.env := by rfl)
    (hpl : (backTo pos (starEach [.Lambda params body scope lpos] X.env)).any (·.1) = false := by rfl) :
    PE X (.Call (.Name x p) [e, .Lambda params body scope lpos] [] pos) (TX .f c (fLam me Fn j fe fb)) := by
  refine ⟨fun pins s σ H Q J ⟨M, p0, ow, ρ, S, R, h⟩ => ?_⟩
  unfold fLam at h
  refine wpAny_Call_Name_kw (ld_glob J hGl hm (PySem.W.callWith_K (h₀ := X.base) J.ok.mod.kin G.kp ?_ h1 hpl) hdb)
  rw [h1, h2]
  show wpAny _ _ (spliced ((false, eval e X.env) :: (false, eval (.Lambda params body scope lpos) X.env) :: [])) _ _ s
  refine Calls.spliced_cons (thn (he.run pins s σ H _ J ⟨M, p0, ow, ρ, S, R, RX.bind (k' := .t) h⟩) fun u s1 hh => ?_)
  obtain ⟨v, H1, J1, ru, d, S1, M1, p1, e1, R1, t1, h1⟩ := hh
  by_cases ht : hasTab me S1 = true
  · rw [if_pos ht] at h1
    obtain ⟨m, hm1⟩ := hasTab_at ht
    obtain ⟨Pt, hp1, hTA, hTS⟩ := R1.sto.at_ m _ hm1
    rw [cc.K, cc.mg] at hTA
    obtain ⟨k0, hcode, TB⟩ := own Pt hTA
    refine Calls.spliced_cons (lamMake J1 TB hcode (by rw [hq]; exact hTS) plain (L.has J1.ok) fun f k pm ct H2 s2 J2 hH hTab hf hfn hfr isK => Calls.spliced_nil ⟨J2.kIn, ?_⟩)
    have both : Ext M1 p1 H1 M1 p1 H2 ∧ FR c M1 p1 H2 ow σ ρ S1 := by
      rcases hH with rfl | ⟨ps, nk, rfl⟩
      · exact ⟨.refl, R1⟩
      · have nP : Pt ≠ k := fun z => by
          obtain ⟨_, hx, _⟩ := hTS
          rw [z, nk] at hx; cases hx
        have nfP : ∀ q u, (upd H1 k (LamX.CodeO k (lamQ X))) Pt ≠ some (.frz q u) := fun q u e => by
          obtain ⟨_, hx, _⟩ := hTS
          rw [upd_ne nP, hx] at e; cases e
        rw [upd_comm nP] at hTab ⊢
        have R2 := (R1.new (o := LamX.CodeO k (lamQ X)) nk).store (ho := .tbl ps) hp1 nfP (o := .tab me) ⟨by rw [cc.K, cc.mg]; exact hTA, by rw [← hq]; exact hTab⟩
        have es : S1.set m (.tab me) = S1 := by
          obtain ⟨hl, he⟩ := List.getElem?_eq_some_iff.mp hm1
          rw [← he]
          exact List.set_getElem_self hl
        rw [es] at R2
        exact ⟨(Ext.new nk).trans (Ext.put (List.mem_of_getElem? hp1) nfP), R2⟩
    obtain ⟨e2, R2⟩ := both
    have t2 := TV.ext e2 R1.sto.muts R1.sto.inM d v t1
    have h2 := h1.later e2 fun _ m => m
    have s2' := R2.sto
    rw [cc.K, cc.mg] at s2' t2
    have all : Vals [v, .ref f] [u, .ref f] := .cons ru (.cons rfl .nil)
    have rc : codeAny (model X.prog X.w) X.A (.call (.ref g) ⟨[u, .ref f], []⟩) (CR CX0 X.stack X.prog X.w H2 s2 Q E0) s2 := by
      have bnd := B s2 [u, .ref f] J2.kIn rfl
      rw [List.append_nil] at bnd
      refine runBody G Sg hr J2.env0 bnd all rfl fun cdv _ hr' => ⟨TSx (fc0 X.K X.mg H2 p1 M1 fun _ _ _ _ => False) (gfb (fn1 ρ j fb) f), ?_, ?_⟩
      · refine (hg cdv X.A X.stack s2 H2 (fc0 X.K X.mg H2 p1 M1 fun _ _ _ _ => False) (fn1 ρ j fb) f ⟨rfl, rfl, rfl⟩ hr' gd fun c' cc' ee aa q1 q2 ha hes => ?_).nox
        exact actP (c0 := c) (i := 1) J2 R2 ⟨cc.K, cc.mg⟩ hN hj L hf hfn hfr isK (fun u => bind _ _ _ u) hr' gd (fun A outer s1 H1 c cc hr gd => hbody A outer s1 H1 c f k cc hr gd) ⟨cc'.K, cc'.mg, by
          have z := cc'.W
          have z0 : c'.H0 = H2 := congrArg WB.H0 z
          have z1 : c'.p0 = p1 := congrArg WB.p0 z
          have z2 : c'.M0 = M1 := congrArg WB.M0 z
          unfold Fc.wb
          rw [z0, z1, z2]⟩ hA2 hV2 hd hcd ha hes
      · have hl : 2 ≤ Ng.length := by
          have := congrArg List.length Sg.pre
          rw [List.length_take] at this
          simp at this
          omega
        refine ⟨M1, p1, _, _, S1, FR.start (ds := [d, .adr f]) (vs := [v, .ref f]) s2' R2.dom ?_ hl, ?_⟩
        · unfold Holds
          refine ⟨v, _, rfl, t2, ?_⟩
          unfold Holds
          refine ⟨.ref f, _, rfl, rfl, ?_⟩
          unfold Holds
          rfl
        · have h3 := hF (fn1 ρ j fb) f d S1
          unfold def0 at h3
          rw [if_pos (show [d, D.adr f].length = 2 from rfl)] at h3
          rw [← h3] at h2
          cases z : gfb (fn1 ρ j fb) f (rho0 Ng.length [d, .adr f]) S1 with
          | ret d' S' =>
            simp only [z] at h2
            intro y M' p' H' e' m' s' dm t
            have s' : SR X.K X.mg M' p' H' S' := s'
            have t : Came .f X.K X.mg H2 M' p' H' d' y := t
            rw [← cc.K, ← cc.mg] at s' t
            exact h2 y M' p' H' e' m' (R2.step e' m' s' dm) t
          | nx r S' =>
            simp only [z] at h2
            intro σ' M' p' H' ow' R'
            have s' : SR X.K X.mg M' p' H' S' := R'.sto
            rw [← cc.K, ← cc.mg] at s'
            exact h2 .non M' p' H' R'.ext R'.M0 (R2.step R'.ext R'.M0 s' R'.dom) (by unfold Came RD; rfl)
          | err nn fs r S' => simp only [z] at h2; exact h2.elim
          | brk r S' => simp only [z] at h2; exact h2.elim
          | ct r S' => simp only [z] at h2; exact h2.elim
          | stuck => simp only [z] at h2; exact h2.elim
    refine wpAny_call (codeAny_mono rc fun r s' hq' => ?_)
    cases r with
    | error e => exact (show False from hq').elim
    | ok fl =>
      cases fl with
      | ret u => exact J2.after hq'
      | next => exact False.elim hq'
      | brk => exact False.elim hq'
      | cont => exact False.elim hq'
  · rw [if_neg ht] at h1
    exact h1.elim
/-- what the tables of the def me are over any base -/
def OwnTb (K : PySem.W.Frag) (mg : Str → Option Value) (base : Heap) (me : Str) : Prop := ∀ f c P, mg me = some (.ref f) → CodeOf K f (.ref c) → (∃ e dd vs sl, K.lookup c = some ⟨e, dd, .fields vs, sl⟩ ∧ vs[11]? = some (.ref P)) → LamX.TabB base mg c P
theorem own_of {K : PySem.W.Frag} {mg : Str → Option Value} {base : Heap} {me : Str} {f : Addr} {cdv : Value} (O : OwnTb K mg base me) (hm : mg me = some (.ref f)) (lk : CodeOf K f cdv) : ∀ P, TabAt K mg me P → ∃ c, cdv = .ref c ∧ LamX.TabB base mg c P := fun P ⟨f', c, h1, ⟨oc, od, fd, sl, h2, h3⟩, h4⟩ => by
  rw [hm] at h1; cases h1
  obtain ⟨oc', od', fd', sl', h5, h6⟩ := lk
  rw [h2] at h5; cases h5
  exact ⟨c, h6.symm.trans h3, O f c P hm ⟨_, _, _, _, h2, h3⟩ h4⟩
/-- a def of the text, held: its body's proof, which may ask for its code object -/
theorem held_mkC {P : Program} {w : World} {K : PySem.W.Frag} {mg : Str → Option Value} {base : Heap} {x qual : Str} {st : Stmt} {f : Addr} {fd : FuncData} {N ps : List Str} {k : Nat} {g : Gx} (F : Fun K x qual st f fd) (Sc : FnScope N ps (defScope st)) (hm : mg x = some (.ref f)) (B : Binds K fd ps [])
    (body : ∀ (cdv : Value) (A : Around) (outer : List Env) (s : Shared) (H : Hp) (E : XK) (c : Fc), CodeOf K f cdv → Cc K mg c.wb c → Room k (A.deeper (envOfC qual (defScope st) s.heap.objs.size f cdv)) → A.guards = some [] →
      PSs (cxOf CX0 P w K mg base N qual (defScope st) f cdv A outer s H E).nox (defBody st) (TSx c g)) : HeldG P w K mg base (k + 1) x (def0 ps.length N.length g) := by
  have hn : ps.length ≤ N.length := by
    have := congrArg List.length Sc.pre
    rw [List.length_take] at this
    omega
  refine ⟨f, fd, ps, N.length, g, hm, ⟨fun vs H Q E ⟨M, p, S, ds, h1, _, _, h2, _⟩ => h2.length.trans h1, fun A outer s H args us vs Q E hr gd e0 hb rv hsp => ?_⟩, F.kp, B, rfl⟩
  obtain ⟨M, p, S, ds, h1, R, dom, h2, h3⟩ := hsp
  refine runBody F Sc hr e0 hb rv (h2.length.trans h1) fun cdv lk hr' => ⟨TSx (fc0 K mg H p M fun _ _ _ _ => False) g, (body cdv A outer s H E _ lk ⟨rfl, rfl, rfl⟩ hr' gd).nox, M, p, _, _, S, FR.start R dom h2 (by omega), ?_⟩
  unfold def0 at h3
  rw [if_pos h1] at h3
  cases z : g (rho0 N.length ds) S with
  | ret d S' => simp only [z] at h3; exact fun v M' p' H' e m R' dm t => h3 v M' p' H' e m R' dm t
  | nx r S' => simp only [z] at h3; exact fun σ' M' p' H' ow' R' => h3 .non M' p' H' R'.ext R'.M0 R'.sto R'.dom (by unfold Came RD; rfl)
  | err n fs r S' => simp only [z] at h3
  | brk r S' => simp only [z] at h3
  | ct r S' => simp only [z] at h3
  | stuck => simp only [z] at h3
/-- the word that a body of a def with a callback may lean on -/
def ActOk (P : Program) (w : World) (K : PySem.W.Frag) (mg : Str → Option Value) (base : Heap) (N : List Str) (x a2 : Str) (st : Stmt) (g : Addr) (cdv : Value) (A : Around) (outer : List Env) (s : Shared) (H : Hp) (W : WB) (fn : List D → Sto → Res) (f : Addr) : Prop :=
  ∀ c', Cc K mg W c' → ∀ (e : Expr) (aa : Ax) (q1 q2 : Pos), PA (cxOf CX0 P w K mg base N x (defScope st) g cdv A outer s H E0).nox [e] (TAx false c' aa) → (starEach [e] (cxOf CX0 P w K mg base N x (defScope st) g cdv A outer s H E0).nox.env = (false, eval e (cxOf CX0 P w K mg base N x (defScope st) g cdv A outer s H E0).nox.env) :: starEach [] (cxOf CX0 P w K mg base N x (defScope st) g cdv A outer s H E0).nox.env) →
    PE (cxOf CX0 P w K mg base N x (defScope st) g cdv A outer s H E0).nox (.Call (.Name a2 q1) [e] [] q2) (TX .f c' (fAct 1 f fn aa))
end QL

set_option Elab.async false
set_option linter.all false
set_option maxRecDepth 100000
set_option maxHeartbeats 2000000
/-! QX: the law is called -/
namespace QL
open PySem PySem.Spec L2
open PyProof.Rows hiding St

/-- what is tracked as the law begins: the script (where it is no object of the text's own), the tables -/
def H00 (K : PySem.W.Frag) (a : Addr) (o : Obj) (vs : List V) (T : List Addr) : Hp := fun b => if b = a ∧ K.lookup a = none then some (.frz o (.lst vs)) else if b ∈ T then some (.tbl #[]) else none
section
variable {K : PySem.W.Frag} {a : Addr} {o : Obj} {vs : List V} {T : List Addr}
theorem H00_some {b : Addr} {u : HO} (h : H00 K a o vs T b = some u) : (b = a ∧ K.lookup a = none ∧ u = .frz o (.lst vs)) ∨ (b ∈ T ∧ u = .tbl #[]) := by
  unfold H00 at h
  split at h
  · rename_i z; cases h; exact .inl ⟨z.1, z.2, rfl⟩
  · split at h
    · rename_i z; cases h; exact .inr ⟨z, rfl⟩
    · cases h
theorem H00_tab {b : Addr} (h : b ∈ T) (n : b ≠ a) : H00 K a o vs T b = some (.tbl #[]) := by
  unfold H00
  rw [if_neg fun z => n z.1, if_pos h]
theorem H00_scr (h : K.lookup a = none) : H00 K a o vs T a = some (.frz o (.lst vs)) := by
  unfold H00
  rw [if_pos ⟨rfl, h⟩]
end
/-- a table, by the text: the def's name, its code object, the table -/
abbrev TabT := Str × Addr × Addr
def KTab (K : PySem.W.Frag) (mg : Str → Option Value) (t : TabT) : Prop := (∃ f, mg t.1 = some (.ref f) ∧ CodeOf K f (.ref t.2.1)) ∧ ∃ e dd vs sl, K.lookup t.2.1 = some ⟨e, dd, .fields vs, sl⟩ ∧ vs[11]? = some (.ref t.2.2)
theorem KTab.at_ {K : PySem.W.Frag} {mg : Str → Option Value} {t : TabT} (h : KTab K mg t) : TabAt K mg t.1 t.2.2 := let ⟨⟨f, h1, oc, od, fd, sl, h2, h3⟩, e, dd, vs, sl', h4, h5⟩ := h; ⟨f, t.2.1, h1, ⟨oc, od, fd, sl, h2, h3⟩, e, dd, vs, sl', h4, h5⟩
theorem KTab.own {K : PySem.W.Frag} {mg : Str → Option Value} {t : TabT} {base : Heap} (h : KTab K mg t) (b : LamX.TabB base mg t.2.1 t.2.2) : OwnTb K mg base t.1 := fun f c P hm lk ⟨e, dd, vs, sl, h4, h5⟩ => by
  obtain ⟨⟨f', h1, oc, od, fd, sl1, h2, h3⟩, e', dd', vs', sl', h6, h7⟩ := h
  rw [hm] at h1; cases h1
  obtain ⟨oc2, od2, fd2, sl2, g2, g3⟩ := lk
  rw [h2] at g2; cases g2
  rw [h3] at g3; cases g3
  rw [h6] at h4; cases h4
  rw [h7] at h5; cases h5
  exact b
theorem KTab.top {K : PySem.W.Frag} {mg mb : Str → Option Value} {t : TabT} {q : Program} {loose : List Str} {mean : ExcName → Option Value} {h : Heap} (kt : KTab K mg t) (KX : K.In h) (T : Top q loose mean mg mb h) (rec : ((recsOf q).any fun e => e.name == t.1) = true) : h.get? t.2.2 = some { cls := .none, data := .fields #[] } ∧ PySem.W.CodeHd h t.2.1 t.2.2 := by
  obtain ⟨d, hd, hn⟩ := List.any_eq_true.mp rec
  obtain ⟨a, o, fd, c, P, h1, h2, h3, h4, h5, h6⟩ := T.tab d hd
  rw [show d.name = t.1 from beq_iff_eq.mp hn] at h1
  obtain ⟨⟨f, g1, oc, od, fd2, sl, g2, g3⟩, e, dd, vs, sl', g4, g5⟩ := kt
  rw [g1] at h1; cases h1
  have z := KX _ _ g2
  rw [h2] at z; cases z
  cases h3
  rw [g3] at h4; cases h4
  have cd := PySem.W.CodeHd.of h5 h6
  obtain ⟨⟨o2, ws, e1, e2, e3, e4⟩, hP⟩ := h6
  have z2 := KX _ _ g4
  rw [e1] at z2; cases z2
  cases e3
  rw [g5] at e4; cases e4
  exact ⟨hP, cd⟩
theorem law_callG {P : Program} {w : World} {K : PySem.W.Frag} {mg mb : Str → Option Value} {k : Nat} {fa a : Addr} {ts : List TabT} {x : Str} {Fl : List D → Sto → Res} {s : Shared} {us : List Value} {ns : List Int}
    (KX : K.In s.heap) (gl : s.heap.Ns mainGlobals mg) (bl : s.heap.Ns builtinsNs mb) (boot : ∀ x : Str, x ≠ "__name__" → mb x = bootBuiltins x) (lim : s.heap.NoLimit) (ge : s.gens = #[])
    (tabs : ∀ p ∈ ts, s.heap.get? p.2.2 = some { cls := .none, data := .fields #[] }) (tabsK : ∀ p ∈ ts, K.lookup p.2.2 = none) (codes : ∀ p ∈ ts, PySem.W.CodeHd s.heap p.2.1 p.2.2) (kt : ∀ p ∈ ts, KTab K mg p) (nd : (ts.map (·.2.2)).Nodup)
    (main : ∃ (bm : Addr) (ob : Obj), mg "__builtins__" = some (.ref bm) ∧ bm ≠ builtinsNs ∧ s.heap.get? bm = some ob ∧ ob.cls = .type "module" ∧ ob.dict = some builtinsNs ∧ ob.data = .plain)
    (scr : s.heap.get? a = some { cls := .type "list", data := .seq us.toArray }) (scrI : IntsAre us ns) (len : ns.length ≤ sizeLine) (hr : Room k callerA)
    (hfa : mg x = some (.ref fa)) (F : ∀ base : Heap, K.In base → base.Ns mainGlobals mg → (∀ p ∈ ts, OwnTb K mg base p.1) → HeldG P w K mg base k x Fl)
    (claim : ∃ S', Fl [.frz (ns.map D.int)] (ts.map fun t => .tab t.1) = .ok (.bl true) S') :
    codeAny (model P w) callerA (.call (.ref fa) ⟨[.ref a], []⟩) (fun r s' => r = .ok (.ret (.bool true)) ∧ OldK s.heap s'.heap ∧ s'.os = s.os ∧ AllBare s'.gens) s := by
  have rv := vals_ints scrI
  have lenU := scrI.length
  let T := ts.map (·.2.2)
  let o0 : Obj := { cls := .type "list", data := .seq us.toArray }
  let H : Hp := H00 K a o0 (ns.map V.int) T
  have inT : ∀ {b}, b ∈ T → s.heap.get? b = some { cls := .none, data := .fields #[] } ∧ K.lookup b = none := fun {b} hb => by
    obtain ⟨p, hp, rfl⟩ := List.mem_map.mp hb
    exact ⟨tabs p hp, tabsK p hp⟩
  have aT : ∀ {b}, b ∈ T → b ≠ a := fun {b} hb z => by
    have q := (inT hb).1
    rw [z, scr] at q
    exact Data.noConfusion (congrArg Obj.data (Option.some.inj q))
  have tracked : ∀ p ∈ ts, H p.2.2 = some (.tbl #[]) := fun p hp => H00_tab (List.mem_map.mpr ⟨p, hp, rfl⟩) (aT (List.mem_map.mpr ⟨p, hp, rfl⟩))
  have ok : HOk P w H s.heap := fun b u hu => by
    rcases H00_some hu with ⟨rfl, _, rfl⟩ | ⟨hb, rfl⟩
    · exact ⟨scr, by rw [List.length_map]; exact len, us, _, rv, scr⟩
    · exact (inT hb).1
  -- an object of another form is not tracked
  have other : ∀ {b : Addr} {ob : Obj}, s.heap.get? b = some ob → (∀ vs n, ob.data ≠ .seq vs n) → ob.data ≠ .fields #[] → H b = none := fun {b ob} e h1 h2 => by
    cases q : H b with
    | none => rfl
    | some u =>
      rcases H00_some q with ⟨rfl, _, _⟩ | ⟨hb, _⟩
      · rw [scr] at e; cases e; exact (h1 _ _ rfl).elim
      · rw [(inT hb).1] at e; cases e; exact (h2 rfl).elim
  have dictNo : ∀ {b : Addr} {ob : Obj} {es : Array DictEntry} {ep : Nat}, s.heap.get? b = some ob → ob.data = .dict es ep → H b = none := fun {b ob es ep} e d => other e (fun vs n z => by rw [d] at z; exact Data.noConfusion z) fun z => by rw [d] at z; exact Data.noConfusion z
  have ns0 : ∀ {b : Addr} {m : Str → Option Value}, s.heap.Ns b m → (hidT s.heap H).Ns b m := fun {b m} ⟨ob, es, ep, e, d, r⟩ => ⟨ob, es, ep, hidT_get e (dictNo e d), d, r⟩
  have inK : K.In (hidT s.heap H) := fun b ob e => hidT_get (KX b ob e) (by
    cases q : H b with
    | none => rfl
    | some u =>
      rcases H00_some q with ⟨rfl, hk, _⟩ | ⟨hb, _⟩
      · rw [hk] at e; cases e
      · rw [(inT hb).2] at e; cases e)
  have md : L2.Mod K mg (hidT s.heap H) := ⟨inK, ns0 gl, ⟨mb, ns0 bl, boot⟩, let ⟨mc, h1, h2⟩ := lim; ⟨mc, ns0 h1, h2⟩⟩
  have isGl := gl
  obtain ⟨og, esg, epg, atg, dg, _⟩ := isGl
  have TB : ∀ p ∈ ts, LamX.TabB (hidT s.heap H) mg p.2.1 p.2.2 := fun p hp => by
    refine ⟨?_, ?_, fun z => ?_⟩
    · obtain ⟨ob, ws, file, tf, flags, tg, inF, text, tt, e1, r1, r2, r3, rest⟩ := codes p hp
      refine ⟨ob, ws, file, tf, flags, tg, inF, text, tt, hidT_get e1 (other e1 (fun vs n z => by rw [r2] at z; exact Data.noConfusion z) fun z => ?_), r1, r2, r3, rest⟩
      rw [r2] at z
      cases z
      simp at r3
    · obtain ⟨bm, ob, b1, b2, b3, b4, b5, b6⟩ := main
      have plain : ∀ {d : Data}, ob.data = d → d = .plain := fun {d} e => by rw [← e, b6]
      refine ⟨bm, ob, b1, b2, fun z => ?_, fun z => ?_, hidT_get b3 (other b3 (fun vs n z => Data.noConfusion (plain z)) fun z => Data.noConfusion (plain z)), b4, b5, b6⟩
      · rw [z, atg] at b3; cases b3; exact Data.noConfusion (plain dg)
      · rw [z, tabs p hp] at b3; cases b3; exact Data.noConfusion b6
    · rw [z, tabs p hp] at atg; cases atg; exact Data.noConfusion dg
  have e0 : Env0 P w K mg (hidT s.heap H) callerA [] s H := ⟨rfl, md, fun b ob e => of_hidT e, Nat.le_of_eq (hidT_size _ _), trivial, fun b hb => (by cases (show b ∈ ([] : List Addr) from hb)), ok, .of_eq ge⟩
  have sq : SqZ K H a (ns.map V.int) := by
    cases hk : K.lookup a with
    | none => exact .inl ⟨o0, H00_scr hk⟩
    | some ob =>
      have e := KX a ob hk
      rw [scr] at e; cases e
      exact .inr ⟨_, us.toArray, _, hk, rfl, rfl, rfl, by rw [List.size_toArray, lenU]; exact len, by simpa using rv⟩
  obtain ⟨f, fd, ps, np, g, hm, Fn, kp, B, rfl⟩ := (F _ inK (ns0 gl) fun p hp => (kt p hp).own (TB p hp)).ex
  rw [hfa] at hm; cases hm
  obtain ⟨S', claim⟩ := claim
  have n1 : ([D.frz (ns.map D.int)] : List D).length = ps.length := by
    by_cases z : ([D.frz (ns.map D.int)] : List D).length = ps.length
    · exact z
    · rw [def0_len z] at claim; cases claim
  have bind := B s [.ref a] KX (by simpa using n1)
  rw [List.append_nil] at bind
  have sr : SR K mg (fun b => b ∈ T) T H (ts.map fun t => .tab t.1) := by
    refine ⟨by rw [List.length_map, List.length_map], nd, fun b hb => hb, fun n o ho => ?_⟩
    rw [List.getElem?_map] at ho
    cases z : ts[n]? with
    | none => rw [z] at ho; cases ho
    | some t =>
      rw [z] at ho; cases ho
      have ht := List.mem_of_getElem? z
      exact ⟨t.2.2, by rw [List.getElem?_map, z]; rfl, (kt t ht).at_, LamX.TabS.nil (tracked t ht)⟩
  have rds : ∀ l : List Int, RDs K mg (fun b => b ∈ T) T H (l.map D.int) (l.map V.int) := fun l => by
    induction l with
    | nil => exact RDs.nil
    | cons i l ih => exact RDs.cons (by unfold RD; rfl) ih
  have domT : ∀ b, b ∈ T → H b ≠ none := fun b hb z => by
    have y : H b = some (.tbl #[]) := H00_tab hb (aT hb)
    rw [y] at z; cases z
  refine codeAny_mono (Fn.run callerA [] s H ⟨[.ref a], []⟩ [.ref a] [.ref a] (fun v _ => v = .bl true) E0 hr rfl e0 bind (.cons rfl .nil) ⟨fun b => b ∈ T, T, _, [D.frz (ns.map D.int)], n1, sr, domT, ?_, ?_⟩) fun r s' h => ?_
  · unfold Holds
    refine ⟨.ref a, [], rfl, ⟨a, ns.map V.int, rfl, sq, rds ns⟩, ?_⟩
    unfold Holds
    rfl
  · rw [claim]
    intro v M' p' H' _ _ _ _ cm
    unfold Came RD at cm
    exact cm
  cases r with
  | error e => exact (show False from h).elim
  | ok fl =>
    cases fl with
    | next => exact False.elim h
    | brk => exact False.elim h
    | cont => exact False.elim h
    | ret u =>
      obtain ⟨v, H', os, bare, un, ok', r', q⟩ := h
      obtain rfl : v = .bl true := q
      obtain rfl : u = Value.bool true := r'
      have still : ∀ b ob, b ∉ T → s.heap.get? b = some ob → s'.heap.get? b = some ob := fun b ob nb e => by
        cases q : H b with
        | none => exact un.keep b ob e q (fun z => by cases (show b ∈ ([] : List Addr) from z)) (by simp)
        | some u =>
          rcases H00_some q with ⟨rfl, _, rfl⟩ | ⟨hb, _⟩
          · have h2 := (ok' b _ (un.frzs b _ _ q)).1
            rw [scr] at e; cases e
            exact h2
          · exact absurd hb nb
      have grown : ∀ p ∈ ts, ∃ more : Array Value, s'.heap.get? p.2.2 = some { cls := .none, data := .fields more } := fun p hp => by
        obtain ⟨more, z⟩ := un.tbls p.2.2 #[] (tracked p hp)
        exact ⟨_, ok' p.2.2 _ z⟩
      refine ⟨rfl, ⟨fun b ob e => ?_, fun b ob e => ?_⟩, os, bare⟩
      · by_cases hb : b ∈ T
        · obtain ⟨p, hp, rfl⟩ := List.mem_map.mp hb
          obtain ⟨more, hm⟩ := grown p hp
          have e' : s.heap.get? p.2.2 = some ob := e
          rw [tabs p hp] at e'
          cases e'
          exact .inr (.inl ⟨((codes p hp).tab (tabs p hp)).isCodeTable, rfl, #[], more, rfl, by rw [Array.empty_append]; exact hm⟩)
        · exact .inl (still b ob hb e)
      · by_cases hb : b ∈ T
        · obtain ⟨p, hp, rfl⟩ := List.mem_map.mp hb
          obtain ⟨more, hm⟩ := grown p hp
          exact ⟨_, hm⟩
        · exact ⟨ob, still b ob hb e⟩
/-- the law's row, from the promise of its defs -/
theorem walkG {l : PySem.W.OpenLaw} {n k : Nat} {q : Program} {loose : List Str} {XP : (Str → Option Value) → Heap → Prop} {YP : World → Heap → Prop} {d : DefRec} {K : Params → PySem.W.Frag} {Fl : List D → Sto → Res} {ms : List Str}
    (hn : l.most = some n) (hn2 : n ≤ sizeLine) (hdf : d.params.defaults = []) (hr : Room k callerA) (hY : ∀ (w : World) (h : Heap), YP w h → (K w.params).In h) (hrec : ∀ m ∈ ms, ((recsOf q).any fun e => e.name == m) = true)
    (F : ∀ (w : World) (mg : Str → Option Value) (fa : Addr) (h : Heap), (K w.params).In h → h.Ns mainGlobals mg → mg d.name = some (.ref fa) →
      ∃ ts : List TabT, ts.map (·.1) = ms ∧ (∀ t ∈ ts, KTab (K w.params) mg t ∧ (K w.params).lookup t.2.2 = none) ∧ (ts.map (·.2.2)).Nodup ∧ ∀ base : Heap, (K w.params).In base → base.Ns mainGlobals mg → (∀ m ∈ ms, OwnTb (K w.params) mg base m) → HeldG l.prog w (K w.params) mg base k d.name Fl)
    (claim : ∀ ns : List Int, ns.length ≤ n → (∀ z ∈ ns, Builtin.Int.intBits z ≤ 1048576) → ∃ S', Fl [.frz (ns.map D.int)] (ms.map MO.tab) = .ok (.bl true) S') : PySem.W.WalkO q loose XP YP l.row.toRowW d [] (fun f vs => PySem.call f vs) := by
  refine Att.attach_callB hn hdf fun w s₀ s₁ mg mb fa o pm cd doc a vs ns G Y ho hd hcd hmg hobj scrI hlen hbits hg => ?_
  have KX := hY w _ Y
  obtain ⟨ts, e, h1, nd, hF⟩ := F w mg fa _ KX G.T.g hmg
  have inR : ∀ t ∈ ts, ((recsOf q).any fun e => e.name == t.1) = true := fun t ht => hrec t.1 (by rw [← e]; exact List.mem_map.mpr ⟨t, ht, rfl⟩)
  refine law_callG KX G.T.g G.T.b G.T.builtins G.T.nolimit hg (fun t ht => ((h1 t ht).1.top KX G.T (inR t ht)).1) (fun t ht => (h1 t ht).2) (fun t ht => ((h1 t ht).1.top KX G.T (inR t ht)).2) (fun t ht => (h1 t ht).1) nd G.T.bmain hobj scrI (Nat.le_trans hlen hn2) hr hmg
    (fun base b1 b2 b3 => hF base b1 b2 fun m hm => ?_) ?_
  · rw [← e] at hm
    obtain ⟨t, ht, rfl⟩ := List.mem_map.mp hm
    exact b3 t ht
  · have z := claim ns hlen hbits
    rw [← e, List.map_map] at z
    exact z
end QL

set_option Elab.async false
set_option linter.all false
set_option maxRecDepth 100000
/-! QY: the text's top -/
namespace QL
open PySem PySem.Spec L2
open PyProof.Rows hiding St

/-- a def stands at the text's top -/
def DefAt (K : PySem.W.Frag) (mg : Str → Option Value) (x : Str) (st : Stmt) (ps : List Str) : Prop := ∃ f fd, mg x = some (.ref f) ∧ Fun K x x st f fd ∧ Binds K fd ps []
theorem def_at {K : PySem.W.Frag} {h : Heap} {mg : Str → Option Value} {x : Str} {st : Stmt} {ps : List Str} {f : Addr} {oc : Value} {od an : Option Addr} {osl : Array (Option Value)} {kV doc pm cdv ct : Value} (X : K.In h) (G : h.Ns mainGlobals mg) (a : PySem.W.nsIn K mainGlobals x = some (some (.ref f)))
    (l : K.lookup f = some ⟨oc, od, .func (PySem.W.fnOf x x (defArgs st) (defBody st) (defScope st) .none kV doc pm an cdv ct), osl⟩) (c : PySem.W.codeIn K cdv x = true) (k : PySem.W.keepIn K (.ref f) = true)
    (b : ∀ (kV doc pm : Value) (an : Option Addr) (cdv ct : Value) (us : List Value), us.length = ps.length → bindArgs (PySem.W.fnOf x x (defArgs st) (defBody st) (defScope st) .none kV doc pm an cdv ct) ⟨us, []⟩ = pure (ps.zip us)) : DefAt K mg x st ps :=
  let F := fun_mk (st := st) l c k
  ⟨f, _, PySem.W.mg_of X G a, F, F.binds b⟩
/-- the table of a def that makes a lambda -/
def TabIs (K : PySem.W.Frag) (mg : Str → Option Value) (x : Str) : Prop := ∃ c P, KTab K mg (x, c, P) ∧ K.lookup P = none
theorem tab_is {K : PySem.W.Frag} {h : Heap} {mg : Str → Option Value} {x : Str} {st : Stmt} {f c P : Addr} {oc e : Value} {od an dd : Option Addr} {osl sl : Array (Option Value)} {vs : Array Value} {kV doc pm ct : Value} (X : K.In h) (G : h.Ns mainGlobals mg) (a : PySem.W.nsIn K mainGlobals x = some (some (.ref f)))
    (l : K.lookup f = some ⟨oc, od, .func (PySem.W.fnOf x x (defArgs st) (defBody st) (defScope st) .none kV doc pm an (.ref c) ct), osl⟩) (lc : K.lookup c = some ⟨e, dd, .fields vs, sl⟩) (v : vs[11]? = some (.ref P)) (n : K.lookup P = none) : TabIs K mg x :=
  ⟨c, P, ⟨⟨f, PySem.W.mg_of X G a, _, _, _, _, l, rfl⟩, _, _, _, _, lc, v⟩, n⟩
theorem const_str {K : PySem.W.Frag} {h : Heap} {mg : Str → Option Value} {x y : Str} {t : Tok} (X : K.In h) (G : h.Ns mainGlobals mg) (a : PySem.W.nsIn K mainGlobals x = some (some (.str y t))) : ConstG K mg x (.str y) := ⟨.str y, _, PySem.W.mg_of X G a, ⟨t, rfl⟩, fun _ _ _ => by unfold RD; rfl⟩
theorem const_int {K : PySem.W.Frag} {h : Heap} {mg : Str → Option Value} {x : Str} {y : Int} {t : Tok} (X : K.In h) (G : h.Ns mainGlobals mg) (a : PySem.W.nsIn K mainGlobals x = some (some (.int y t))) : ConstG K mg x (.int y) := ⟨.int y, _, PySem.W.mg_of X G a, ⟨t, rfl⟩, fun _ _ _ => by unfold RD; rfl⟩
/-- written items of a tuple: texts, ints -/
def ScRel : List D → List Value → Prop
  | [], us => us = []
  | d :: ds, us => ∃ u r v, us = u :: r ∧ d.sc = some v ∧ RelV v u ∧ ScRel ds r
theorem const_tup {K : PySem.W.Frag} {h : Heap} {mg : Str → Option Value} {x : Str} {ad : Addr} {its : Array Value} {n : Nat} {sl : Array (Option Value)} {ds : List D} (X : K.In h) (G : h.Ns mainGlobals mg) (a : PySem.W.nsIn K mainGlobals x = some (some (.ref ad))) (l : K.lookup ad = some ⟨.type "tuple", none, .seq its n, sl⟩) (r : ScRel ds its.toList)
    (z : its.size ≤ 1000000) : ConstG K mg x (.tup true ds) := by
  have go : ∀ (ds : List D) (us : List Value), ScRel ds us → ∃ vs, Vals vs us ∧ ∀ M p H, RDs K mg M p H ds vs := fun ds => by
    induction ds with
    | nil =>
      intro us r
      unfold ScRel at r; subst r
      exact ⟨[], .nil, fun _ _ _ => RDs.nil⟩
    | cons d ds ih =>
      intro us r
      unfold ScRel at r
      obtain ⟨u, us', v, rfl, e, rv, r⟩ := r
      obtain ⟨vs, h1, h2⟩ := ih us' r
      refine ⟨v :: vs, .cons rv h1, fun M p H => RDs.cons ?_ (h2 M p H)⟩
      cases d <;> first | (cases e; unfold RD; rfl) | cases e
  obtain ⟨vs, h1, h2⟩ := go ds _ r
  refine ⟨.ref ad, _, PySem.W.mg_of X G a, rfl, fun M p H => ?_⟩
  unfold RD
  exact ⟨ad, vs, rfl, .inr ⟨_, its, n, l, rfl, rfl, rfl, mill z, h1⟩, h2 M p H⟩
end QL

set_option Elab.async false
set_option linter.all false
set_option maxRecDepth 100000
/-! QZ: what the words of a body give, step by step -/
namespace QL
open PySem PySem.Spec L2
open PyProof.Rows hiding St

section
variable {g1 g2 : Gx} {f fa fb ft : Fx} {a r : Ax} {ρ ρ' : Rho} {S S1 S2 S3 : Sto} {d e x : D} {ds : List D} {i : Nat} {b : Bool}
theorem gSeq_nx (h : g1 ρ S = .nx ρ' S1) : gSeq g1 g2 ρ S = g2 ρ' S1 := by unfold gSeq; rw [h]
theorem gSeq_ret (h : g1 ρ S = .ret d S1) : gSeq g1 g2 ρ S = .ret d S1 := by unfold gSeq; rw [h]
theorem gSet_ok (h : f ρ S = .ok d S1) : gSet i f ρ S = .nx (ρ.set i (putSl d)) S1 := by unfold gSet; rw [h]; rfl
theorem gSetR_ok (h : f ρ S = .ok d S1) : gSetR i f ρ S = .nx (ρ.set i (.val d)) S1 := by unfold gSetR; rw [h]; rfl
theorem gExpr_ok (h : f ρ S = .ok d S1) : gExpr f ρ S = .nx ρ S1 := by unfold gExpr; rw [h]; rfl
theorem gRet_ok (h : f ρ S = .ok d S1) : gRet f ρ S = .ret d S1 := by unfold gRet; rw [h]; rfl
theorem gIf_t (h : ft ρ S = .ok (.bl true) S1) : gIf ft g1 g2 ρ S = g1 ρ S1 := by unfold gIf; rw [h]; rfl
theorem gIf_f (h : ft ρ S = .ok (.bl false) S1) : gIf ft g1 g2 ρ S = g2 ρ S1 := by unfold gIf; rw [h]; rfl
theorem gPar_ok {j : Nat} (h : fa ρ S = .ok d S1) (h2 : fb ρ S1 = .ok e S2) : gPar i j fa fb ρ S = .nx ((ρ.set i (putSl d)).set j (putSl e)) S2 := by unfold gPar; rw [h]; simp only [thenG]; rw [h2]
theorem gPar3_ok {j l : Nat} {fd : Fx} {u : D} (h : fa ρ S = .ok d S1) (h2 : fb ρ S1 = .ok e S2) (h3 : fd ρ S2 = .ok u S3) : gPar3 i j l fa fb fd ρ S = .nx (((ρ.set i (putSl d)).set j (putSl e)).set l (putSl u)) S3 := by unfold gPar3; rw [h]; simp only [thenG]; rw [h2]; simp only [thenG]; rw [h3]
theorem gApp_ok (h0 : ρ[i]? = some (.own ds)) (h : f ρ S = .ok d S1) (l : ds.length < 1000000) : gApp i f ρ S = .nx (ρ.set i (.own (ds ++ [d]))) S1 := by unfold gApp; rw [h0]; simp only [h, thenG]; rw [if_pos l]
theorem gFrz_own {g : Gx} (h : ρ[i]? = some (.own ds)) : gFrz i g ρ S = g (ρ.set i (.val (.lst ds))) S := by unfold gFrz; rw [h]
theorem gFrz_val {g : Gx} (h : ρ[i]? = some (.val d)) : gFrz i g ρ S = g ρ S := by unfold gFrz; rw [h]
theorem gRetV_own (h : ρ[i]? = some (.own ds)) : gRetV i ρ S = .ret (.lst ds) S := by unfold gRetV; rw [h]
theorem gRetV_val (h : ρ[i]? = some (.val d)) (n : d.nl = true) : gRetV i ρ S = .ret d S := by unfold gRetV; rw [h]; simp only [n, if_true]
theorem fDef_ok {F : List D → Sto → Res} (h : a ρ S = .ok ds S1) : fDef F a ρ S = F ds S1 := by unfold fDef; rw [h]; rfl
theorem fVar_val (h : ρ[i]? = some (.val d)) : fVar i ρ S = .ok d S := by unfold fVar; rw [h]
theorem fVar_own (h : ρ[i]? = some (.own ds)) : fVar i ρ S = .ok (.lst ds) S := by unfold fVar; rw [h]
theorem fVar_bor (h : ρ[i]? = some (.bor ds)) : fVar i ρ S = .ok (.lst ds) S := by unfold fVar; rw [h]
theorem fVarR_val (h : ρ[i]? = some (.val d)) : fVarR i ρ S = .ok d S := by unfold fVarR; rw [h]
theorem fNl_ok (h : f ρ S = .ok d S1) (n : d.nl = true) : fNl f ρ S = .ok d S1 := by unfold fNl; rw [h]; simp only [Res.bind, n, if_true]
theorem fCons_ok (h : f ρ S = .ok d S1) (h2 : r ρ S1 = .ok ds S2) : fCons f r ρ S = .ok (d :: ds) S2 := by unfold fCons; rw [h]; simp only [h2]
theorem fNil_ok : fNil ρ S = .ok [] S := rfl
theorem cons1 (h : f ρ S = .ok d S1) : fCons f fNil ρ S = .ok [d] S1 := fCons_ok h rfl
theorem cons2 (h : fa ρ S = .ok d S1) (h2 : fb ρ S1 = .ok e S2) : fCons fa (fCons fb fNil) ρ S = .ok [d, e] S2 := fCons_ok h (cons1 h2)
theorem cons3 {fd : Fx} {u : D} (h : fa ρ S = .ok d S1) (h2 : fb ρ S1 = .ok e S2) (h3 : fd ρ S2 = .ok u S3) : fCons fa (fCons fb (fCons fd fNil)) ρ S = .ok [d, e, u] S3 := fCons_ok h (cons2 h2 h3)
theorem fTup_ok {z : Bool} (h : a ρ S = .ok ds S1) (l : ds.length ≤ 1000000 := by simp) : fTup z a ρ S = .ok (.tup z ds) S1 := by unfold fTup; rw [h]; simp only [ARes.bind]; rw [if_pos l]
theorem fLst_ok (h : a ρ S = .ok ds S1) (l : ds.length ≤ 1000000 := by simp) : fLst a ρ S = .ok (.lst ds) S1 := by unfold fLst; rw [h]; simp only [ARes.bind]; rw [if_pos l]
theorem f2_ok {g : D → D → Option D} (h : fa ρ S = .ok d S1) (h2 : fb ρ S1 = .ok e S2) (hg : g d e = some x) : f2 g fa fb ρ S = .ok x S2 := by unfold f2; rw [h]; simp only [Res.bind]; rw [h2]; simp only [hg, lift]
theorem f2S_ok {g : Sto → D → D → Option D} (h : fa ρ S = .ok d S1) (h2 : fb ρ S1 = .ok e S2) (hg : g S2 d e = some x) : f2S g fa fb ρ S = .ok x S2 := by unfold f2S; rw [h]; simp only [Res.bind]; rw [h2]; simp only [hg, lift]
theorem f1_ok {g : D → Option D} (h : fa ρ S = .ok d S1) (hg : g d = some x) : f1 g fa ρ S = .ok x S1 := by unfold f1; rw [h]; simp only [Res.bind, hg, lift]
theorem f1S_ok {g : Sto → D → Option D} (h : fa ρ S = .ok d S1) (hg : g S1 d = some x) : f1S g fa ρ S = .ok x S1 := by unfold f1S; rw [h]; simp only [Res.bind, hg, lift]
theorem fCall_ok {g : Sto → List D → Option D} (h : a ρ S = .ok ds S1) (hg : g S1 ds = some x) : fCall g a ρ S = .ok x S1 := by unfold fCall; rw [h]; simp only [ARes.bind, hg, lift]
theorem fIf_ok (h : ft ρ S = .ok (.bl b) S1) (ha : b = true → fa ρ S1 = .ok d S2) (hb : b = false → fb ρ S1 = .ok d S2) : fIf ft fa fb ρ S = .ok d S2 := by
  unfold fIf
  rw [h]
  cases b with
  | true => exact ha rfl
  | false => exact hb rfl
theorem fNot_ok (h : fa ρ S = .ok (.bl b) S1) : fNot fa ρ S = .ok (.bl !b) S1 := by unfold fNot; rw [h]; rfl
theorem fAnd_t (h : fa ρ S = .ok (.bl true) S1) : fAnd fa fb ρ S = fb ρ S1 := by unfold fAnd; rw [h]; rfl
theorem fAnd_f (h : fa ρ S = .ok (.bl false) S1) : fAnd fa fb ρ S = .ok (.bl false) S1 := by unfold fAnd; rw [h]; rfl
theorem fOr_t (h : fa ρ S = .ok (.bl true) S1) : fOr fa fb ρ S = .ok (.bl true) S1 := by unfold fOr; rw [h]; rfl
theorem fOr_f (h : fa ρ S = .ok (.bl false) S1) : fOr fa fb ρ S = fb ρ S1 := by unfold fOr; rw [h]; rfl
theorem gAs_ok {tf : Tf} (h : f ρ S = .ok d S1) (h2 : tf d ρ S1 = .nx ρ' S2) : gAs f tf ρ S = .nx ρ' S2 := by unfold gAs; rw [h]; simp only [thenG, h2, onlyN]
theorem gFor_ok {fi : Ax} {tf : Tf} {g : Gx} (h : fi ρ S = .ok ds S1) : gFor fi tf g ρ S = forG tf g ds ρ S1 := by unfold gFor; rw [h]
theorem forG_cons {tf : Tf} {g : Gx} {ρ1 ρ2 : Rho} (h : tf d ρ S = .nx ρ1 S1) (h2 : g ρ1 S1 = .nx ρ2 S2) : forG tf g (d :: ds) ρ S = forG tf g ds ρ2 S2 := by rw [forG, h]; simp only [h2]
theorem tup_ok (h : a ρ S = .ok [.lst ds] S1) : fCall dTup a ρ S = .ok (.tup true ds) S1 := fCall_ok h rfl
/-! ### items by number -/
theorem dIx_at {xs : List D} {k : Int} {j : Nat} {y : D} (hy : y.items = some xs) (hk : k = (j : Int)) (h : xs[j]? = some d) : dIx S y (.int k) = some d := by
  have hj := (List.getElem?_eq_some_iff.mp h).1
  subst hk
  have ea : atI xs (j : Int) = some d := atI_nat h
  cases y with
  | tup z ys => cases hy; simpa [dIx, D.res, D.items] using ea
  | lst ys => cases hy; simpa [dIx, D.res, D.items] using ea
  | frz ys => cases hy; simpa [dIx, D.res, D.items] using ea
  | _ => cases hy
theorem ixN_nat {n j : Nat} (h : j < n) : ixN n (j : Int) = some j := by
  unfold ixN
  rw [if_pos (by omega), if_pos (by omega)]
  simp
theorem moSet_at {xs : List D} {k : Int} {j : Nat} (hk : k = (j : Int)) (h : j < xs.length) : moSet (.lst xs) (.int k) d = some (.lst (xs.set j d)) := by
  subst hk
  simp [moSet, ixN_nat h]
theorem tfSub_own {fi : Fx} {xs : List D} {k : Int} {j : Nat} (h0 : ρ[i]? = some (.own xs)) (h : fi ρ S = .ok (.int k) S1) (hk : k = (j : Int)) (hj : j < xs.length) : tfSub i fi d ρ S = .nx (ρ.set i (.own (xs.set j d))) S1 := by
  unfold tfSub
  rw [h0]
  simp only [h, thenG, moSet_at hk hj]
theorem tfTup2 {t1 t2 : Tf} {z : Bool} {ρ1 ρ2 : Rho} (h1 : t1 d ρ S = .nx ρ1 S1) (h2 : t2 e ρ1 S1 = .nx ρ2 S2) : tfTup 2 (tfCons t1 (tfCons t2 tfNil)) (.tup z [d, e]) ρ S = .nx ρ2 S2 := by
  simp [tfTup, tfCons, h1, h2, onlyN, tfNil]
/-- two neighbours of a list exchanged -/
def swapL {α : Type} (l : List α) (p : Nat) : List α := match l[p]?, l[p + 1]? with
  | some x, some y => (l.set p y).set (p + 1) x
  | _, _ => l
theorem swapL_eq {α : Type} {l : List α} {p : Nat} {x y : α} (h1 : l[p]? = some x) (h2 : l[p + 1]? = some y) : swapL l p = (l.set p y).set (p + 1) x := by unfold swapL; rw [h1, h2]
theorem swapL_length {α : Type} (l : List α) (p : Nat) : (swapL l p).length = l.length := by
  unfold swapL
  split
  · rw [List.length_set, List.length_set]
  · rfl
theorem swapL_map {α β : Type} (f : α → β) (l : List α) (p : Nat) : swapL (l.map f) p = (swapL l p).map f := by
  unfold swapL
  rw [List.getElem?_map, List.getElem?_map]
  cases l[p]? <;> cases l[p + 1]? <;> simp [List.map_set]
end
/-! ### comprehensions -/
theorem lc_map {α : Type} {vs : List Nat} {t : Tn} {fe : Fx} {ρ : Rho} {S : Sto} (enc f : α → D) : ∀ (xs : List α) (acc : List D), (∀ x ∈ xs, ∃ ρ1, t (enc x) (wipeR ρ vs) = some ρ1 ∧ fe ρ1 S = .ok (f x) S) → acc.length + xs.length ≤ 1000000 → lcG vs t fYes fe (xs.map enc) acc ρ S = .ok (.lst (acc ++ xs.map f)) S
  | [], acc, _, _ => by simp [lcG]
  | x :: xs, acc, h, l => by
    obtain ⟨ρ1, h1, h2⟩ := h x List.mem_cons_self
    rw [List.map_cons, lcG, h1]
    simp only [fYes, h2]
    rw [List.length_cons] at l
    rw [if_pos (by omega), lc_map enc f xs (acc ++ [f x]) (fun y hy => h y (List.mem_cons_of_mem _ hy)) (by rw [List.length_append, List.length_singleton]; omega)]
    simp
theorem fLc_map {α : Type} {vs : List Nat} {fi : Ax} {t : Tn} {fe : Fx} {ρ : Rho} {S S1 : Sto} {ds : List D} (enc f : α → D) (xs : List α) (hi : fi ρ S = .ok ds S1) (e : ds = xs.map enc) (h : ∀ x ∈ xs, ∃ ρ1, t (enc x) (wipeR ρ vs) = some ρ1 ∧ fe ρ1 S1 = .ok (f x) S1) (l : xs.length ≤ 1000000) :
    fLc vs fi t fYes fe ρ S = .ok (.lst (xs.map f)) S1 := by
  unfold fLc
  rw [hi]
  subst e
  have := lc_map enc f xs [] h (by simpa using l)
  simpa using this
theorem lc_filter {α : Type} {vs : List Nat} {t : Tn} {ft fe : Fx} {ρ : Rho} {S : Sto} (enc f : α → D) (p : α → Bool) : ∀ (xs : List α) (acc : List D), (∀ x ∈ xs, ∃ ρ1, t (enc x) (wipeR ρ vs) = some ρ1 ∧ ft ρ1 S = .ok (.bl (p x)) S ∧ (p x = true → fe ρ1 S = .ok (f x) S)) → acc.length + xs.length ≤ 1000000 →
    lcG vs t ft fe (xs.map enc) acc ρ S = .ok (.lst (acc ++ (xs.filter p).map f)) S
  | [], acc, _, _ => by simp [lcG]
  | x :: xs, acc, h, l => by
    obtain ⟨ρ1, h1, h2, h3⟩ := h x List.mem_cons_self
    rw [List.length_cons] at l
    rw [List.map_cons, lcG, h1]
    simp only [h2]
    cases hp : p x with
    | true =>
      simp only [h3 hp]
      rw [if_pos (by omega), lc_filter enc f p xs (acc ++ [f x]) (fun y hy => h y (List.mem_cons_of_mem _ hy)) (by rw [List.length_append, List.length_singleton]; omega)]
      simp [List.filter_cons, hp]
    | false =>
      simp only
      rw [lc_filter enc f p xs acc (fun y hy => h y (List.mem_cons_of_mem _ hy)) (by omega)]
      simp [List.filter_cons, hp]
theorem fLc_filter {α : Type} {vs : List Nat} {fi : Ax} {t : Tn} {ft fe : Fx} {ρ : Rho} {S S1 : Sto} {ds : List D} (enc f : α → D) (p : α → Bool) (xs : List α) (hi : fi ρ S = .ok ds S1) (e : ds = xs.map enc) (h : ∀ x ∈ xs, ∃ ρ1, t (enc x) (wipeR ρ vs) = some ρ1 ∧ ft ρ1 S1 = .ok (.bl (p x)) S1 ∧ (p x = true → fe ρ1 S1 = .ok (f x) S1)) (l : xs.length ≤ 1000000) :
    fLc vs fi t ft fe ρ S = .ok (.lst ((xs.filter p).map f)) S1 := by
  unfold fLc
  rw [hi]
  subst e
  have := lc_filter enc f p xs [] h (by simpa using l)
  simpa using this
end QL

set_option Elab.async false
set_option linter.all false
set_option maxRecDepth 100000
/-! RA: objects of own classes: made, their fields, their methods -/
namespace QL
open PySem PySem.Spec L2
open PyProof.Rows hiding St

/-- what the top tells of a class -/
def ClsT (K : PySem.W.Frag) (mg : Str → Option Value) (cls : Str) : Prop := ∃ C, mg cls = some (.ref C) ∧ Cls K C
def FldT (K : PySem.W.Frag) (mg : Str → Option Value) (cls f : Str) : Prop := ∃ C, mg cls = some (.ref C) ∧ NoAttr K C f
/-- a field is put -/
def putFD (f : Str) (d : D) : List (Str × D) → List (Str × D)
  | [] => [(f, d)]
  | (g, x) :: r => if g = f then (g, d) :: r else (g, x) :: putFD f d r
/-- e.f -/
def dFld (cls f : Str) (S : Sto) (d : D) : Option D := match d with
  | .ref n => (match S[n]? with
    | some (.ins c fs) => if c = cls then fs.lookup f else none
    | _ => none)
  | _ => none
section
variable {K : PySem.W.Frag} {mg : Str → Option Value} {M M' : Addr → Prop} {p p' : List Addr} {H H' : Hp} {S : Sto}
theorem RKs.look : ∀ {fs : List (Str × D)} {ws : List (Str × V)} {f : Str} {d : D}, RKs K mg M p H fs ws → fs.lookup f = some d → ∃ v, ws.lookup f = some v ∧ RD K mg M p H d v
  | [], _, _, _, _, e => by cases e
  | (k, d0) :: fs, _, f, d, h, e => by
    unfold RKs at h
    obtain ⟨v, r, rfl, h2, h3⟩ := h
    rw [List.lookup_cons] at e ⊢
    cases z : f == k with
    | true => simp only [z] at e ⊢; cases e; exact ⟨v, rfl, h2⟩
    | false => simp only [z] at e ⊢; exact RKs.look h3 e
theorem RKs.look0 : ∀ {fs : List (Str × D)} {ws : List (Str × V)} {f : Str}, RKs K mg M p H fs ws → fs.lookup f = none → ws.lookup f = none
  | [], _, _, h, _ => by unfold RKs at h; subst h; rfl
  | (k, d0) :: fs, _, f, h, e => by
    unfold RKs at h
    obtain ⟨v, r, rfl, h2, h3⟩ := h
    rw [List.lookup_cons] at e ⊢
    cases z : f == k with
    | true => simp only [z] at e; cases e
    | false => simp only [z] at e ⊢; exact RKs.look0 h3 e
end
section
variable {X : Cx} {W : WB} {c : Fc} {cls f m : Str} {o e value : Expr} {es : List Expr} {fo fv : Fx} {pos pos' apos p : Pos} {a : Ax} {j k : Nat} {Fn : List D → Sto → Res}
theorem qFld (cc : Cc X.K X.mg W c) (hC : ClsT X.K X.mg cls) (hF : FldT X.K X.mg cls f) (ho : PE X o (TX .t c fo)) (hb : attributeBase o f X.env (eval o X.env) = eval o X.env := by rfl) : PE X (.Attribute o f pos) (TX .r c (f1S (dFld cls f) fo)) :=
  peW (pe_fld ho hb) fun σ H Q ⟨M, p, ow, ρ, S, R, h⟩ => by
    unfold f1S at h
    refine ⟨M, p, ow, ρ, S, R, (RX.bind (k' := .t) h).mono fun v H1 ⟨d, S1, M1, p1, e1, R1, t1, h1⟩ => ?_⟩
    cases d with
    | ref n =>
      obtain ⟨b, hb, rfl⟩ := t1
      simp only [dFld] at h1
      cases z : S1[n]? with
      | none => simp only [z] at h1; exact h1.elim
      | some mo =>
        cases mo with
        | ins c' fs =>
          simp only [z] at h1
          obtain ⟨b', hb', ws, ⟨C, dx, g1, g2⟩, g3⟩ := R1.sto.at_ n _ z
          rw [hb] at hb'; cases hb'
          by_cases hc : c' = cls
          · subst hc
            rw [if_pos rfl] at h1
            cases y : fs.lookup f with
            | none => rw [y] at h1; exact h1.elim
            | some x =>
              rw [y] at h1
              obtain ⟨u, g4, g5⟩ := g3.look y
              obtain ⟨C1, c1, c2⟩ := hC
              obtain ⟨C2, c3, c4⟩ := hF
              rw [cc.mg, c1] at g1; cases g1
              rw [c1] at c3; cases c3
              exact ⟨b, C, dx, ws, u, rfl, g2, by rw [← cc.K] at c2; rw [cc.K] at c2; exact c2, c4, g4, (Ans.of R1 h1).rd R1.sto R1.dom g5⟩
          · rw [if_neg hc] at h1; exact h1.elim
        | _ => simp only [z] at h1; exact h1.elim
    | _ => exact h1.elim
end
/-! ### o.f = e -/
section
variable {K : PySem.W.Frag} {mg : Str → Option Value} {M : Addr → Prop} {p : List Addr} {H : Hp} {f : Str} {d : D} {v : V}
theorem RKs.putF (hd : RD K mg M p H d v) : ∀ {fs : List (Str × D)} {ws : List (Str × V)}, RKs K mg M p H fs ws → RKs K mg M p H (putFD f d fs) (L2.putF f v ws)
  | [], _, h => by
    unfold RKs at h; subst h
    show RKs K mg M p H [(f, d)] [(f, v)]
    unfold RKs
    refine ⟨v, [], rfl, hd, ?_⟩
    unfold RKs; rfl
  | (k, d0) :: fs, _, h => by
    unfold RKs at h
    obtain ⟨w, r, rfl, h2, h3⟩ := h
    unfold putFD L2.putF
    by_cases z : k = f
    · simp only [z, if_true]
      unfold RKs
      exact ⟨v, r, rfl, hd, h3⟩
    · simp only [z, if_false]
      unfold RKs
      exact ⟨w, _, rfl, h2, RKs.putF hd h3⟩
theorem Holds.ext {b : Bool} {M' : Addr → Prop} {p' : List Addr} {H' : Hp} (e : Ext M p H M' p' H') (hm : Muts p H) (hM : ∀ a ∈ p, M a) : ∀ {ds : List D} {vs : List V}, Holds b K mg M p H ds vs → Holds b K mg M' p' H' ds vs
  | [], _, h => by unfold Holds at h ⊢; exact h
  | d :: ds, _, h => by
    unfold Holds at h ⊢
    obtain ⟨v, r, h1, h2, h3⟩ := h
    exact ⟨v, r, h1, Hold.ext e hm hM h2, Holds.ext e hm hM h3⟩
end
/-- o.f = e -/
def gFldS (cls f : Str) (fo fv : Fx) : Gx := fun ρ S => thenG (fv ρ S) ρ fun d S1 => thenG (fo ρ S1) ρ fun o S2 => match o with
  | .ref n => (match S2[n]? with
    | some (.ins c fs) => if c = cls ∧ fs.length < 1000 then .nx ρ (S2.set n (.ins c (putFD f d fs))) else .stuck
    | _ => .stuck)
  | _ => .stuck
theorem RKs.length' {κ : Type} {K : PySem.W.Frag} {mg : Str → Option Value} {M : Addr → Prop} {p : List Addr} {H : Hp} {ds : List (κ × D)} {ws : List (κ × V)} (h : RKs K mg M p H ds ws) : ws.length = ds.length := h.length
section
variable {X : Cx} {W : WB} {c : Fc} {cls f m : Str} {o e value : Expr} {es : List Expr} {fo fv : Fx} {pos pos' apos p : Pos} {a : Ax} {j k : Nat} {Fn : List D → Sto → Res}
theorem qFldS (cc : Cc X.K X.mg W c) (hC : ClsT X.K X.mg cls) (hF : FldT X.K X.mg cls f) (ho : PE X o (TX .t c fo)) (hv : PE X value (TX .r c fv)) (hs : swapsWith value (some (.Attribute o f pos')) pos.line X.env = pure false := by rfl) :
    PS X (.Assign [.Attribute o f pos'] value pos) (TSx c (gFldS cls f fo fv)) :=
  psW (ps_fld ho hv hs) fun D σ H ⟨M, p, ow, ρ, S, R, h⟩ => by
    refine ⟨M, p, ow, ρ, S, R, (RS.then (k := .r) h).mono fun y H1 ⟨d, S1, M1, p1, e1, R1, t1, h1⟩ => ⟨M1, p1, ow, ρ, S1, R1, (RS.then (k := .t) h1).mono fun x H2 ⟨ob, S2, M2, p2, e2, R2, t2, h2⟩ => ?_⟩⟩
    have rd : RD c.K c.mg M2 p2 H2 d y := RD.ext e2 R1.sto.muts R1.sto.inM d y t1
    cases ob with
    | ref n =>
      obtain ⟨b, hb, rfl⟩ := t2
      cases z : S2[n]? with
      | none => simp only [z] at h2; exact h2.elim
      | some mo =>
        cases mo with
        | ins c' fs =>
          simp only [z] at h2
          obtain ⟨b', hb', ws, ⟨C, dx, g1, g2⟩, g3⟩ := R2.sto.at_ n _ z
          rw [hb] at hb'; cases hb'
          by_cases hc : c' = cls ∧ fs.length < 1000
          · rw [if_pos hc] at h2
            obtain ⟨hc, hl⟩ := hc
            subst hc
            obtain ⟨C1, c1, c2⟩ := hC
            obtain ⟨C2, c3, c4⟩ := hF
            rw [cc.mg, c1] at g1; cases g1
            rw [c1] at c3; cases c3
            have hm := List.mem_of_getElem? hb
            have hM := R2.sto.inM b hm
            have mu := R2.sto.muts b hm
            exact ⟨b, C, dx, ws, rfl, g2, c2, c4, by rw [g3.length]; exact hl, h2 _ _ _ _ _ (R2.store hb (fun q u e => by rw [g2] at e; cases e) ⟨_, ⟨C, dx, by rw [cc.mg]; exact c1, upd_same⟩, RKs.chg hM (by rw [g2]; trivial) _ _ (RKs.putF rd g3)⟩)⟩
          · rw [if_neg hc] at h2; exact h2.elim
        | _ => simp only [z] at h2; exact h2.elim
    | _ => exact h2.elim
end
/-! ### o.m(..) -/
/-- a method holds its function -/
def HeldM (P : Program) (w : World) (K : PySem.W.Frag) (mg : Str → Option Value) (base : Heap) (k : Nat) (cls m : Str) (fn : List D → Sto → Res) : Prop :=
  ∃ C f fd ps np g, mg cls = some (.ref C) ∧ Cls K C ∧ Meth K C m f ∧ FnG P w K mg base CX0 k f fd ps (spF K mg ps.length (def0 ps.length np g)) ∧ Binds K fd ps [] ∧ fn = def0 ps.length np g
theorem HeldM.up {P : Program} {w : World} {K : PySem.W.Frag} {mg : Str → Option Value} {base : Heap} {j k : Nat} {cls m : Str} {Fn : List D → Sto → Res} (G : HeldM P w K mg base j cls m Fn) (h : j ≤ k) : HeldM P w K mg base k cls m Fn := by
  obtain ⟨C, f, fd, ps, np, g, h1, h2, h3, F, B, e⟩ := G
  exact ⟨C, f, fd, ps, np, g, h1, h2, h3, F.up h, B, e⟩
/-- a class is made by its __init__ -/
def HeldI (P : Program) (w : World) (K : PySem.W.Frag) (mg : Str → Option Value) (base : Heap) (k : Nat) (cls : Str) (fn : List D → Sto → Res) : Prop :=
  ∃ C f fd ps np g, mg cls = some (.ref C) ∧ Mk K C f ∧ FnG P w K mg base CX0 k f fd ps (spF K mg ps.length (def0 ps.length np g)) ∧ Binds K fd ps [] ∧ fn = def0 ps.length np g
theorem HeldI.up {P : Program} {w : World} {K : PySem.W.Frag} {mg : Str → Option Value} {base : Heap} {j k : Nat} {cls : Str} {Fn : List D → Sto → Res} (G : HeldI P w K mg base j cls Fn) (h : j ≤ k) : HeldI P w K mg base k cls Fn := by
  obtain ⟨C, f, fd, ps, np, g, h1, h2, F, B, e⟩ := G
  exact ⟨C, f, fd, ps, np, g, h1, h2, F.up h, B, e⟩
section
variable {X : Cx} {CX : CXT} {k : Nat} {f C : Addr} {fd : FuncData} {ps : List Str} {sp : Sp} {dvs : List V} {ds : List Value} {E : XK} {x m : Str} {p pos apos : Pos} {e o : Expr} {es : List Expr} {ta : TE} {t : TA}
theorem pe_methG {pl : Sem Bool} (he : PE X o ta) (c : Cls X.K C) (hm : Meth X.K C m f) (F : FnG X.prog X.w X.K X.mg X.base CX k f fd ps sp) (hr : Room k X.A) (gd : X.A.guards = some []) (hb : Binds X.K fd ps ds) (hd : Vals dvs ds) (hx : Passes CX X E) (ha : PA X (e :: es) t)
    (hst : starEach (e :: es) X.env = (false, eval e X.env) :: starEach es X.env) (hpl : (backTo pos (starEach es X.env)).any (·.1) = false)
    (ht : eval (.Call (.Attribute o m apos) (e :: es) [] pos) X.env = (do
      let ov ← eval o X.env
      standAt apos.atName
      let (f, first) ← holding [ov] (getMethod ov m pl)
      callWith pos f first (backTo pos (starEach (e :: es) X.env)) (backToKw pos (keywordEach [] X.env)))) :
    PE X (.Call (.Attribute o m apos) (e :: es) [] pos) (tMeth C m sp dvs E ta t) := by
  refine ⟨fun pins s σ H Q I h => ?_⟩
  refine PySem.W.methodCall_KW (pl := pl) (thn (he.run pins s σ H _ I h) fun u s1 ⟨x, H1, I1, rx, a, dx, fs, ex, ea, l, q⟩ => ?_) ht
  subst ex
  obtain rfl : u = Value.ref a := rx
  refine getmeth_ok I1 ea c hm l ?_
  refine PySem.W.callWith_K (first := [.ref a]) (h₀ := X.base) I.ok.mod.kin hm.kp (thn (ha.run pos pins s1 σ H1 _ I1 q) fun us s2 ⟨vs, H2, I2, r, q2⟩ => ⟨I2.kIn, ?_⟩) hst hpl
  exact run_g (us := .ref a :: us) (vs := .ref a :: vs) F hr gd hb hd hx I2 (.cons rfl r) q2
theorem pe_methG0 {pl : Sem Bool} (he : PE X o ta) (c : Cls X.K C) (hm : Meth X.K C m f) (F : FnG X.prog X.w X.K X.mg X.base CX k f fd ps sp) (hr : Room k X.A) (gd : X.A.guards = some []) (hb : Binds X.K fd ps ds) (hd : Vals dvs ds) (hx : Passes CX X E)
    (ht : eval (.Call (.Attribute o m apos) [] [] pos) X.env = (do
      let ov ← eval o X.env
      standAt apos.atName
      let (f, first) ← holding [ov] (getMethod ov m pl)
      callWith pos f first (backTo pos (starEach [] X.env)) (backToKw pos (keywordEach [] X.env)))) :
    PE X (.Call (.Attribute o m apos) [] [] pos) (tMeth C m sp dvs E ta tNil) := by
  refine ⟨fun pins s σ H Q I h => ?_⟩
  refine PySem.W.methodCall_KW (pl := pl) (thn (he.run pins s σ H _ I h) fun u s1 ⟨x, H1, I1, rx, a, dx, fs, ex, ea, l, q⟩ => ?_) ht
  subst ex
  obtain rfl : u = Value.ref a := rx
  refine getmeth_ok I1 ea c hm l ?_
  exact PySem.W.callWith_K0 (first := [.ref a]) I1.kIn hm.kp (run_g (us := [.ref a]) (vs := [.ref a]) F hr gd hb hd hx I1 (.cons rfl .nil) q)
theorem run_makeG {pins : List (Addr × Obj)} {σ : St} {H : Hp} {s : Shared} {Q : VK} {us : List Value} {vs : List V} (M : Mk X.K C f) (F : FnG X.prog X.w X.K X.mg X.base CX k f fd ps sp) (hr : Room (k + 1) X.A) (gd : X.A.guards = some []) (hb : Binds X.K fd ps ds) (hd : Vals dvs ds)
    (hx : Passes CX X E) (I : Inv X pins σ H s) (r : Vals vs us)
    (h : ∀ x dx, H x = none → H dx = none → dx ≠ x → sp (.ref x :: (vs ++ dvs)) (upd (upd H dx (.own x)) x (.ins C dx [])) (fun v H2 => v = .non ∧ Q (.ref x) H2) E) :
    wpAny (model X.prog X.w) X.A (call (.ref C) us) (EP X pins σ Q) X.xe s := by
  have hq := h (s.heap.objs.size + 1) s.heap.objs.size (I.hok.fresh (Nat.le_succ _)) (I.hok.fresh (Nat.le_refl _)) (Nat.ne_of_lt (Nat.lt_succ_self _))
  have I2 := Inv.made (C := C) I
  have r2 : Vals (V.ref (s.heap.objs.size + 1) :: (vs ++ dvs)) (Value.ref (s.heap.objs.size + 1) :: (us ++ ds)) := .cons rfl (r.append hd)
  have hl : (Value.ref (s.heap.objs.size + 1) :: us ++ ds).length = ps.length := by
    have e := r2.length
    rw [F.len _ _ _ _ hq] at e
    exact e.symm
  have gd2 : (X.A.under (.builtin "type.__call__" ⟨.ref C :: us, []⟩)).guards = some [] := by
    simp only [Around.under, gd]
    first | rfl | decide | simp [Code.guards, pushGuards, Code.isGuard, guardIds]
  refine wpAny_call (make_map (f := f) I.kIn M.makes M.init (beq_iff_eq.mp M.fn) (codeAny_mono (F.run _ X.stack _ _ ⟨Value.ref (s.heap.objs.size + 1) :: us, []⟩ (Value.ref (s.heap.objs.size + 1) :: (us ++ ds)) _ _ E (hr.make C us []) gd2
    (I2.env0.make C us []) (hb _ (Value.ref (s.heap.objs.size + 1) :: us) I2.kIn hl) r2 hq) fun r s' hq' => ?_))
  cases r with
  | error e => exact hx pins σ _ _ e s' I2 hq'
  | ok fl =>
    cases fl with
    | ret u =>
      obtain ⟨v, H', I3, rv, ev, q3⟩ := I2.after hq'
      subst ev
      exact ⟨rv, ⟨V.ref (s.heap.objs.size + 1), H', I3, rfl, q3⟩⟩
    | next => exact False.elim hq'
    | brk => exact False.elim hq'
    | cont => exact False.elim hq'
theorem pe_makeG (M : Mk X.K C f) (F : FnG X.prog X.w X.K X.mg X.base CX k f fd ps sp) (hr : Room (k + 1) X.A) (gd : X.A.guards = some []) (hg : Gl X x) (hm : X.mg x = some (.ref C)) (hb : Binds X.K fd ps ds) (hd : Vals dvs ds) (hx : Passes CX X E)
    (ha : PA X (e :: es) t) (hdb : (x == ("__debug__" : Str)) = false) (he : starEach (e :: es) X.env = (false, eval e X.env) :: starEach es X.env) (hpl : (backTo pos (starEach es X.env)).any (·.1) = false) :
    PE X (.Call (.Name x p) (e :: es) [] pos) (tMake C sp dvs E t) := by
  refine ⟨fun pins s σ H Q I h => ?_⟩
  refine wpAny_Call_Name_kw (ld_glob I hg hm ?_ hdb)
  refine PySem.W.callWith_K (h₀ := X.base) I.ok.mod.kin M.kp (thn (ha.run pos pins s σ H _ I h) fun us s1 ⟨vs, H1, I1, r, q⟩ => ⟨I1.kIn, ?_⟩) he hpl
  exact run_makeG M F hr gd hb hd hx I1 r q
end
def fMeth (cls m : Str) (F : List D → Sto → Res) (fo : Fx) (a : Ax) : Fx := fun ρ S => (fo ρ S).bind fun d S1 => match d with
  | .ref n => (match S1[n]? with
    | some (.ins c fs) => if c = cls ∧ fs.lookup m = none then (a ρ S1).bind fun ds S2 => F (d :: ds) S2 else .stuck
    | _ => .stuck)
  | _ => .stuck
def fMake (cls : Str) (F : List D → Sto → Res) (a : Ax) : Fx := fun ρ S => (a ρ S).bind fun ds S1 => match F (.ref S1.length :: ds) (S1 ++ [.ins cls []]) with
  | .ok .non S2 => .ok (.ref S1.length) S2
  | _ => .stuck
section
variable {X : Cx} {W : WB} {c : Fc} {cls f m : Str} {o e value : Expr} {es : List Expr} {fo fv : Fx} {pos pos' apos p : Pos} {a : Ax} {j k : Nat} {Fn : List D → Sto → Res}
theorem methRead (cc : Cc X.K X.mg W c) {C : Addr} {ps : List Str} {np : Nat} {g : Gx} (hC : X.mg cls = some (.ref C)) (σ : St) (H : Hp) (Q : VK) (h : TX .f c (fMeth cls m (def0 ps.length np g) fo a) σ H Q) :
    tMeth C m (spF X.K X.mg ps.length (def0 ps.length np g)) [] E0 (TX .t c fo) (TAx false c a) σ H Q := by
  obtain ⟨M, p, ow, ρ, S, R, h⟩ := h
  refine ⟨M, p, ow, ρ, S, R, (RX.bind (k' := .t) h).mono fun v H1 ⟨d, S1, M1, p1, e1, R1, t1, h1⟩ => ?_⟩
  cases d with
  | ref n =>
    obtain ⟨b, hb, rfl⟩ := t1
    cases z : S1[n]? with
    | none => simp only [z] at h1; exact h1.elim
    | some mo =>
      cases mo with
      | ins c' fs =>
        simp only [z] at h1
        obtain ⟨b', hb', ws, ⟨C', dx, g1, g2⟩, g3⟩ := R1.sto.at_ n _ z
        rw [hb] at hb'; cases hb'
        by_cases hc : c' = cls ∧ fs.lookup m = none
        · rw [if_pos hc] at h1
          obtain ⟨hc, hl⟩ := hc
          subst hc
          rw [cc.mg, hC] at g1; cases g1
          refine ⟨b, dx, ws, rfl, g2, g3.look0 hl, M1, p1, ow, ρ, S1, R1, (RA.bind (b := false) h1).mono fun vs H2 ⟨ds, S2, M2, p2, e2, R2, t2, h2⟩ => ?_⟩
          have s2 := R2.sto
          rw [cc.K, cc.mg] at s2
          rw [cc.K, cc.mg] at t2
          have nl : (D.ref n :: ds).length = ps.length := by
            by_cases y : (D.ref n :: ds).length = ps.length
            · exact y
            · rw [def0_len y] at h2; exact h2.elim
          refine ⟨M2, p2, S2, .ref n :: ds, nl, s2, R2.dom, ?_, ?_⟩
          · rw [List.append_nil]
            unfold Holds
            exact ⟨_, _, rfl, ⟨b, e2.get hb, rfl⟩, t2⟩
          · cases y : def0 ps.length np g (.ref n :: ds) S2 with
            | stuck => rw [y] at h2; exact h2
            | err nn fs S' => exact absurd y def0_err
            | ok d S' =>
              rw [y] at h2
              intro v M' p' H' e' m' R' d' t'
              rw [← cc.K, ← cc.mg] at R' t'
              exact h2 v M' p' H' e' m' (R2.step e' m' R' d') t'
        · rw [if_neg hc] at h1; exact h1.elim
      | _ => simp only [z] at h1; exact h1.elim
  | _ => exact h1.elim
theorem qMeth (cc : Cc X.K X.mg W c) (G : HeldM X.prog X.w X.K X.mg X.base j cls m Fn) (hr : Room k X.A) (gd : X.A.guards = some []) (ho : PE X o (TX .t c fo)) (ha : PA X (e :: es) (TAx false c a)) (hjk : j ≤ k := by decide) {pl : Sem Bool}
    (hst : starEach (e :: es) X.env = (false, eval e X.env) :: starEach es X.env := by rfl) (hpl : (backTo pos (starEach es X.env)).any (·.1) = false := by rfl)
    (ht : eval (.Call (.Attribute o m apos) (e :: es) [] pos) X.env = (do
      let ov ← eval o X.env
      standAt apos.atName
      let (f, first) ← holding [ov] (getMethod ov m pl)
      callWith pos f first (backTo pos (starEach (e :: es) X.env)) (backToKw pos (keywordEach [] X.env))) := by rfl) :
    PE X (.Call (.Attribute o m apos) (e :: es) [] pos) (TX .f c (fMeth cls m Fn fo a)) := by
  obtain ⟨C, f, fd, ps, np, g, h1, h2, h3, F, B, rfl⟩ := G
  exact peW (pe_methG ho h2 h3 F (hr.mono hjk) gd B .nil pass0 ha hst hpl ht) (methRead cc h1)
theorem qMeth0 (cc : Cc X.K X.mg W c) (G : HeldM X.prog X.w X.K X.mg X.base j cls m Fn) (hr : Room k X.A) (gd : X.A.guards = some []) (ho : PE X o (TX .t c fo)) (hjk : j ≤ k := by decide) {pl : Sem Bool}
    (ht : eval (.Call (.Attribute o m apos) [] [] pos) X.env = (do
      let ov ← eval o X.env
      standAt apos.atName
      let (f, first) ← holding [ov] (getMethod ov m pl)
      callWith pos f first (backTo pos (starEach [] X.env)) (backToKw pos (keywordEach [] X.env))) := by rfl) :
    PE X (.Call (.Attribute o m apos) [] [] pos) (TX .f c (fMeth cls m Fn fo fNil)) := by
  obtain ⟨C, f, fd, ps, np, g, h1, h2, h3, F, B, rfl⟩ := G
  refine peW (pe_methG0 ho h2 h3 F (hr.mono hjk) gd B .nil pass0 ht) fun σ H Q h => ?_
  have := methRead (a := fNil) cc h1 σ H Q h
  obtain ⟨M, p, ow, ρ, S, R, h'⟩ := this
  refine ⟨M, p, ow, ρ, S, R, h'.mono fun x H1 ⟨b, dx, fs, e1, e2, e3, M1, p1, ow1, ρ1, S1, R1, h4⟩ => ⟨b, dx, fs, e1, e2, e3, ?_⟩⟩
  exact h4 [] M1 p1 H1 .refl (fun _ m => m) R1 (by unfold Holds; rfl)
theorem qMake (cc : Cc X.K X.mg W c) (G : HeldI X.prog X.w X.K X.mg X.base j cls Fn) (hr : Room k X.A) (gd : X.A.guards = some []) (ha : PA X (e :: es) (TAx false c a)) (hg : Gl X cls := by rfl) (hjk : j + 1 ≤ k := by decide) (hdb : (cls == ("__debug__" : Str)) = false := by decide)
    (he : starEach (e :: es) X.env = (false, eval e X.env) :: starEach es X.env := by rfl) (hpl : (backTo pos (starEach es X.env)).any (·.1) = false := by rfl) : PE X (.Call (.Name cls p) (e :: es) [] pos) (TX .r c (fMake cls Fn a)) := by
  obtain ⟨C, f, fd, ps, np, g, h1, h2, F, B, rfl⟩ := G
  refine peW (pe_makeG h2 F (hr.mono hjk) gd hg h1 B .nil pass0 ha hdb he hpl) fun σ H Q ⟨M, p, ow, ρ, S, R, h⟩ => ?_
  refine ⟨M, p, ow, ρ, S, R, (RA.bind (b := false) h).mono fun vs H1 ⟨ds, S1, M1, p1, e1, R1, t1, h1'⟩ => ?_⟩
  intro x dx nx nd ne
  have nx2 : upd H1 dx (.own x) x = none := by rw [upd_ne (Ne.symm ne)]; exact nx
  have R2 := (R1.new (o := .own x) nd).newM (o := .ins C dx []) nx2
  have px : x ∉ p1 := fun q => nofree nx R1.dom (R1.sto.inM x q) rfl
  obtain ⟨z1, z2, z3⟩ := R1.h0 nx
  have R3 := R2.add (a := x) (o := .ins cls []) (.inr rfl) px z1 z2 z3 ⟨[], ⟨C, dx, by rw [cc.mg]; exact h1, upd_same⟩, by unfold RKs; rfl⟩
  have ex : Ext M1 p1 H1 (fun b => M1 b ∨ b = x) (p1 ++ [x]) (upd (upd H1 dx (.own x)) x (.ins C dx [])) := ((Ext.new nd).trans (Ext.newM nx2)).add nx
  have hx : (p1 ++ [x])[S1.length]? = some x := by rw [List.getElem?_append_right (by rw [R1.sto.len]; exact Nat.le_refl _), R1.sto.len, Nat.sub_self]; rfl
  have s3 := R3.sto
  rw [cc.K, cc.mg] at s3
  have t3 := t1.ext ex R1.sto.muts R1.sto.inM
  rw [cc.K, cc.mg] at t3
  cases y : def0 ps.length np g (.ref S1.length :: ds) (S1 ++ [.ins cls []]) with
  | stuck => rw [y] at h1'; exact h1'.elim
  | err nn fs S' => exact absurd y def0_err
  | ok d S2 =>
    rw [y] at h1'
    have nl : (D.ref S1.length :: ds).length = ps.length := by
      by_cases w : (D.ref S1.length :: ds).length = ps.length
      · exact w
      · rw [def0_len w] at y; cases y
    refine ⟨_, _, _, .ref S1.length :: ds, nl, s3, R3.dom, ?_, ?_⟩
    · rw [List.append_nil]
      unfold Holds
      exact ⟨_, _, rfl, ⟨x, hx, rfl⟩, t3⟩
    · rw [y]
      intro v M' p' H' e' m' R' d' t'
      cases d with
      | non =>
        have ev : v = .non := by
          have := t'
          unfold Came RD at this
          exact this
        refine ⟨ev, ?_⟩
        rw [← cc.K, ← cc.mg] at R'
        refine h1' (.ref x) M' p' H' (ex.trans e') (fun b q => m' b (.inl q)) (R3.step e' m' R' d') ?_
        unfold Came RD
        exact ⟨x, e'.get hx, rfl⟩
      | _ => exact h1'.elim
end
end QL

set_option Elab.async false
set_option linter.all false
set_option maxRecDepth 100000
/-! RB: stars in displays, min, max, x[i] op= e, targets o[i] of any o -/
namespace QL
open PySem PySem.Spec L2
open PyProof.Rows hiding St

/-! ### *e in a display -/
def fStar (f : Fx) (r : Ax) : Ax := fun ρ S => match f ρ S with
  | .ok d S1 => (match (d.res S1).items with
    | some xs => (match r ρ S1 with
      | .ok ds S2 => .ok (xs ++ ds) S2
      | .err n fs S => .err n fs S
      | .stuck => .stuck)
    | none => .stuck)
  | .err n fs S => .err n fs S
  | .stuck => .stuck
theorem Holds.of_rds {K : PySem.W.Frag} {mg : Str → Option Value} {M : Addr → Prop} {p : List Addr} {H : Hp} : ∀ {ds : List D} {vs : List V}, RDs K mg M p H ds vs → Holds true K mg M p H ds vs
  | [], _, h => by unfold RDs at h; unfold Holds; exact h
  | d :: ds, _, h => by
    unfold RDs at h
    obtain ⟨v, r, h1, h2, h3⟩ := h
    unfold Holds
    exact ⟨v, r, h1, h2, Holds.of_rds h3⟩
section
variable {X : Cx} {W : WB} {c : Fc} {e o ix value : Expr} {es : List Expr} {f fa fb fi fo fv : Fx} {r : Ax} {p pos pos' tpos : Pos} {i : Nat} {x : Str}
theorem qStar (cc : Cc X.K X.mg W c) (he : PE X e (TX .t c f)) (hr : PA X es (TAx true c r)) (hs : starEach (.Starred e p :: es) X.env = (true, eval e X.env) :: starEach es X.env := by rfl) : PA X (.Starred e p :: es) (TAx true c (fStar f r)) :=
  paW (StX.pa_star he hr hs) fun σ H Q ⟨M, p, ow, ρ, S, R, h⟩ => by
    refine ⟨M, p, ow, ρ, S, R, ?_⟩
    unfold fStar at h
    cases z : f ρ S with
    | stuck => rw [z] at h; exact h
    | err n fs S' => rw [z] at h; exact h
    | ok d S1 =>
      rw [z] at h
      intro v M1 p1 H1 e1 m1 R1 t1
      cases y : (d.res S1).items with
      | none => simp only [y] at h; exact h.elim
      | some xs =>
        simp only [y] at h
        obtain ⟨a, vs, rfl, rd, sq⟩ := res_seq R1.sto t1 y
        refine ⟨a, vs, rfl, ?_, M1, p1, ow, ρ, S1, R1, ?_⟩
        · rw [← cc.K]; exact sq.symm
        cases z2 : r ρ S1 with
        | stuck => simp only [z2] at h; exact h
        | err n fs S' => simp only [z2] at h; exact fun C d M' p' H' hc e m R' t => h C d M' p' H' hc (e1.trans e) (fun a q => m a (m1 a q)) R' t
        | ok ds S2 =>
          simp only [z2] at h
          intro ws M2 p2 H2 e2 m2 R2 t2
          refine h (vs ++ ws) M2 p2 H2 (e1.trans e2) (fun a q => m2 a (m1 a q)) R2 (Holds.of_rds ?_)
          exact RDs.append (RDs.ext e2 R1.sto.muts R1.sto.inM _ _ rd) t2.rds
/-! ### min, max of two ints -/
def dMin2 (_ : Sto) : List D → Option D
  | [.int i, .int j] => some (.int (if j < i then j else i))
  | _ => none
def dMax2 (_ : Sto) : List D → Option D
  | [.int i, .int j] => some (.int (if j > i then j else i))
  | _ => none
theorem ok_min2 {K : PySem.W.Frag} {mg : Str → Option Value} : CallOk .f K mg (fun xs H Q => ∃ i j, xs = [.int i, .int j] ∧ Q (.int (if j < i then j else i)) H) dMin2 := by
  intro M p H S ds vs x Q R hd t hg h
  unfold dMin2 at hg
  split at hg
  · cases hg
    obtain ⟨v, w, rfl, tv, tw⟩ := hold_two t
    cases tv; cases tw
    exact ⟨_, _, rfl, h.int R hd⟩
  · cases hg
theorem ok_max2 {K : PySem.W.Frag} {mg : Str → Option Value} : CallOk .f K mg (fun xs H Q => ∃ i j, xs = [.int i, .int j] ∧ Q (.int (if j > i then j else i)) H) dMax2 := by
  intro M p H S ds vs x Q R hd t hg h
  unfold dMax2 at hg
  split at hg
  · cases hg
    obtain ⟨v, w, rfl, tv, tw⟩ := hold_two t
    cases tv; cases tw
    exact ⟨_, _, rfl, h.int R hd⟩
  · cases hg
theorem qMin2 (hc : X.calm = true) (hm : X.mg "min" = none) (ha : PA X (e :: es) (TAx false c r)) (hg : Gl X "min" := by rfl) (he : starEach (e :: es) X.env = (false, eval e X.env) :: starEach es X.env := by rfl) (hpl : (backTo pos (starEach es X.env)).any (·.1) = false := by rfl) : PE X (.Call (.Name "min" p) (e :: es) [] pos) (TX .f c (fCall dMin2 r)) :=
  qCallB (call_min2 hc) ok_min2 hg hm boot_min ha (by decide) (by decide) he hpl
theorem qMax2 (hc : X.calm = true) (hm : X.mg "max" = none) (ha : PA X (e :: es) (TAx false c r)) (hg : Gl X "max" := by rfl) (he : starEach (e :: es) X.env = (false, eval e X.env) :: starEach es X.env := by rfl) (hpl : (backTo pos (starEach es X.env)).any (·.1) = false := by rfl) : PE X (.Call (.Name "max" p) (e :: es) [] pos) (TX .f c (fCall dMax2 r)) :=
  qCallB (call_max2 hc) ok_max2 hg hm boot_max ha (by decide) (by decide) he hpl
/-! ### x[i] op= e, x a list of its own -/
theorem get_list : PGet X (rIxL X.K) := by
  intro pins s σ H o i ov iv Q I ro ri h
  obtain ⟨p, xs, k, z, rfl, rfl, hq, he, q⟩ := h
  cases ro
  obtain ⟨t, rfl⟩ := ri
  obtain ⟨its, r, pl, hz⟩ := I.list hq
  obtain ⟨j, h1, h2, h3, h4, h5⟩ := atI_get he
  obtain ⟨w, ew, rw'⟩ := r.get h2
  have hl := r.length
  have hn := line63
  have fin : EP X pins σ Q w s := ⟨z, H, I, rw', q⟩
  by_cases h0 : 0 ≤ k
  · have hj : k.toNat = j := by
      rw [seqIndex_of h0 h5] at h1
      exact Option.some.inj h1
    exact wpAny_getItem_list pl.isList h0 (by omega) (by rw [hj]; simpa using ew) fin
  · have hj : (k + (its.toArray.size : Int)).toNat = j := by
      rw [seqIndex_neg (by omega) h4] at h1
      rw [List.size_toArray, ← hl]
      exact Option.some.inj h1
    exact wpAny_getItem_list_neg pl.isList (by omega) (by rw [List.size_toArray] <;> omega) (by omega) (by rw [hj]; simpa using ew) fin
def gAugL (i : Nat) (fi fv : Fx) (op : D → D → Option D) : Gx := fun ρ S => match ρ[i]? with
  | some (.own ds) => thenG (fi ρ S) ρ fun k S1 => match k with
    | .int k => (match ixN ds.length k with
      | some j => (match ds[j]? with
        | some x => thenG (fv ρ S1) ρ fun y S2 => (match op x y with
          | some z => .nx (ρ.set i (.own (ds.set j z))) S2
          | none => .stuck)
        | none => .stuck)
      | none => .stuck)
    | _ => .stuck
  | _ => .stuck
theorem qAugL {op : Operator} {rop : R2} {dop : D → D → Option D} (cc : Cc X.K X.mg W c) (hop : OpR X (inplaceOp op) rop) (ok : Op2Ok .r c.K c.mg rop dop) (hi : PE X ix (TX .t c fi)) (hv : PE X value (TX .t c fv)) (hN : X.N[i]? = some x := by rfl) (hvis : Vis X.env.scope x := by first | exact Or.inl rfl | exact Or.inr (Or.inl rfl) | exact Or.inr (Or.inr rfl))
    (hd : (x == ("__debug__" : Str)) = false := by decide) (hcd : (x == ("__classdict__" : Str)) = false := by decide)
    (ha : ∀ ov iv new, augStore ix ov iv new = (do holding [new, ov, iv] (setItem ov iv new); release [new, ov, iv] []; pure .next) := by intros; rfl) : PS X (.AugAssign (.Subscript (.Name x pos') ix tpos) op value pos) (TSx c (gAugL i fi fv dop)) :=
  psW (ps_augS (pe_var hN hvis hd hcd) hi get_list hv hop set_list ha) fun D σ H ⟨M, p, ow, ρ, S, R, h⟩ => by
    unfold gAugL at h
    cases z : ρ[i]? with
    | none => rw [z] at h; exact h.elim
    | some s =>
      rw [z] at h
      cases s with
      | own ds =>
        obtain ⟨a, vs, h1, h2, h3, h4, _⟩ := R.own_at z
        refine ⟨.ref a, h1, M, p, ow, ρ, S, R, (RS.then (k := .t) h).mono fun w H1 ⟨k, S1, M1, p1, e1, R1, t1, q1⟩ => ?_⟩
        obtain ⟨a', vs', g1, g2, g3, g4, _⟩ := R1.own_at z
        have ea : a' = a := by
          rw [h1] at g1
          exact (V.ref.inj (Option.some.inj (Option.some.inj g1))).symm
        subst ea
        cases k with
        | int k =>
          cases t1
          simp only at q1
          cases y : ixN ds.length k with
          | none => simp only [y] at q1; exact q1.elim
          | some j =>
            simp only [y] at q1
            cases y2 : ds[j]? with
            | none => simp only [y2] at q1; exact q1.elim
            | some d0 =>
              simp only [y2] at q1
              obtain ⟨v0, u1, u2⟩ := g4.get y2
              have hat : atI vs' k = some v0 := by
                unfold atI
                rw [g4.length, y]
                exact u1
              refine ⟨a', vs', k, v0, rfl, rfl, by rw [← cc.K]; exact SqL.of g2, hat, M1, p1, ow, ρ, S1, R1, (RS.then (k := .t) q1).mono fun w2 H2 ⟨y0, S2, M2, p2, e2, R2, t2, q2⟩ => ?_⟩
              obtain ⟨a2, vs2, k1, k2, k3, k4, _⟩ := R2.own_at z
              have ea2 : a2 = a' := by
                rw [h1] at k1
                exact (V.ref.inj (Option.some.inj (Option.some.inj k1))).symm
              subst ea2
              have rd0 := RD.ext e2 R1.sto.muts R1.sto.inM _ _ u2
              cases y3 : dop d0 y0 with
              | none => simp only [y3] at q2; exact q2.elim
              | some z0 =>
                simp only [y3] at q2
                refine ok M2 p2 H2 S2 d0 y0 v0 w2 z0 _ R2.sto R2.dom (RD.tv R2.sto.inM rd0) t2 y3 ?_
                intro zz M3 p3 H3 e3 m3 s3 d3 cm
                have R3 := R2.step e3 m3 s3 d3
                obtain ⟨a3, vs3, l1, l2, l3, l4, l5⟩ := R3.own_at z
                have ea3 : a3 = a2 := by
                  rw [h1] at l1
                  exact (V.ref.inj (Option.some.inj (Option.some.inj l1))).symm
                subst ea3
                exact ⟨a3, vs3, k, j, rfl, rfl, l2, by rw [l4.length]; exact y, q2 _ _ _ _ _ (l5 _ _ (RDs.set j l4 cm))⟩
        | _ => exact q1.elim
      | _ => exact h.elim
theorem Op2Ok.r_of {K : PySem.W.Frag} {mg : Str → Option Value} {r : R2} {g : D → D → Option D} (h : Op2Ok .f K mg r g) : Op2Ok .r K mg r fun d e => (g d e).bind fun x => if x.nl then some x else none := fun M p H S d e v w x Q R hd tv tw hg a => by
  cases z : g d e with
  | none => simp only [z, Option.bind_none] at hg; cases hg
  | some y =>
    simp only [z, Option.bind_some] at hg
    split at hg
    · rename_i hn
      cases hg
      refine h M p H S d e v w x Q R hd tv tw z fun yy M' p' H' e' m s' d' cm => a yy M' p' H' e' m s' d' ?_
      cases x with
      | lst _ => cases hn
      | _ => exact cm
    · cases hg
def dIadd : D → D → Option D := fun d e => (dAddI d e).bind fun x => if x.nl then some x else none
def dImodI : D → D → Option D := dI2 (fun _ j => decide (0 < j)) fun i j => .int (i % j)
def dImod : D → D → Option D := fun d e => (dImodI d e).bind fun x => if x.nl then some x else none
theorem ok_iadd {K : PySem.W.Frag} {mg : Str → Option Value} : Op2Ok .r K mg (rI0 fun i j => .int (i + j)) dIadd := ok_addI.r_of
theorem ok_imod {K : PySem.W.Frag} {mg : Str → Option Value} : Op2Ok .r K mg (rI (fun _ j => 0 < j) fun i j => .int (i % j)) dImod := Op2Ok.r_of (ok_I2 (fun i j h => by simpa using h) fun _ _ => rfl)
/-! ### o[i] = e, o any expression -/
def tfSubE (fo fi : Fx) : Tf := fun d ρ S => thenG (fo ρ S) ρ fun o S1 => match o with
  | .ref n => thenG (fi ρ S1) ρ fun k S2 => (match (S2[n]?).bind fun o => moSet o k d with
    | some o => .nx ρ (S2.set n o)
    | none => .stuck)
  | _ => .stuck
theorem qxSubE (hu : X.A.units + 1 < cLine) (ho : ∀ c, Cc X.K X.mg W c → PE X o (TX .t c fo)) (hi : ∀ c, Cc X.K X.mg W c → PE X ix (TX .t c fi))
    (ha : ∀ v, assign (.Subscript o ix tpos) X.env v = (do
      let ov ← holding [v] (eval o X.env)
      let iv ← holding [v, ov] (eval ix X.env)
      standAt tpos
      holding [v, ov, iv] (setItem ov iv v)
      release [v, ov, iv] []) := by intro _; rfl) : PG X (.Subscript o ix tpos) (gX X.K X.mg W (tfSubE fo fi)) :=
  pgW (pg_sub (toA ho) (toA hi) (PSet.or set_list (set_dict hu)) ha) fun v σ H Q ⟨c, M, p, ow, ρ, S, d, cc, R, rd, h⟩ => by
    unfold tfSubE at h
    refine ⟨c, cc, M, p, ow, ρ, S, R, (RS.then (k := .t) h).mono fun ov H0 ⟨ob, S0, M0, p0, e0, R0, t0, h0⟩ => ?_⟩
    have rd0 := RD.ext e0 R.sto.muts R.sto.inM d v rd
    cases ob with
    | ref n =>
      obtain ⟨a, h3, rfl⟩ := t0
      refine ⟨c, cc, M0, p0, ow, ρ, S0, R0, (RS.then (k := .t) h0).mono fun w H1 ⟨k, S1, M1, p1, e1, R1, t1, q1⟩ => ?_⟩
      have rd1 := RD.ext e1 R0.sto.muts R0.sto.inM d v rd0
      have h4 := e1.get h3
      have hM := R1.sto.inM a (List.mem_of_getElem? h4)
      have mu := R1.sto.muts a (List.mem_of_getElem? h4)
      cases y : S1[n]? with
      | none => simp only [y, Option.bind_none] at q1; exact q1.elim
      | some mo =>
        simp only [y, Option.bind_some] at q1
        obtain ⟨a', g1, g2⟩ := R1.sto.at_ n _ y
        rw [h4] at g1; cases g1
        cases mo with
        | lst ds =>
          obtain ⟨vs, g3, g4⟩ := g2
          cases k with
          | int k =>
            cases t1
            simp only [moSet] at q1
            cases y : ixN ds.length k with
            | none => simp only [y, Option.map_none] at q1; exact q1.elim
            | some j =>
              simp only [y, Option.map_some] at q1
              exact .inl ⟨a, vs, k, j, rfl, rfl, g3, by rw [g4.length]; exact y, q1 _ _ _ _ _ (R1.store h4 (fun q u e => by rw [g3] at e; cases e) ⟨_, upd_same, RDs.chg hM (by rw [g3]; trivial) _ _ (RDs.set j g4 rd1)⟩)⟩
          | _ => exact q1.elim
        | dct kvs =>
          obtain ⟨ws, g3, g4⟩ := g2
          simp only [moSet] at q1
          split at q1
          · rename_i o eo
            split at eo
            · rename_i hl
              cases ek : keyD k with
              | none => rw [ek] at eo; cases eo
              | some kk =>
                rw [ek] at eo; cases eo
                have ew := keyD_tv t1 ek
                subst ew
                exact .inr ⟨a, _, rfl, .inl ⟨ws, kk, g3, rfl, millT (by rw [g4.length]; exact Nat.le_of_lt hl), rfl⟩, q1 _ _ _ _ _ (R1.store h4 (fun q u e => by rw [g3] at e; cases e) ⟨_, upd_same, RKs.chg hM (by rw [g3]; trivial) _ _ (g4.put rd1)⟩)⟩
            · cases eo
          · exact q1.elim
        | dctT kvs => simp only [moSet] at q1; exact q1.elim
        | tab _ => simp only [moSet] at q1; exact q1.elim
        | ins _ _ => simp only [moSet] at q1; exact q1.elim
        | fdK _ => simp only [moSet] at q1; exact q1.elim
        | fdT _ => simp only [moSet] at q1; exact q1.elim
        | fl _ => simp only [moSet] at q1; exact q1.elim
    | _ => exact h0.elim
end
end QL

set_option Elab.async false
set_option linter.all false
set_option maxRecDepth 100000
/-! RC: dicts whose keys are tuples -/
namespace QL
open PySem PySem.Spec L2
open PyProof.Rows hiding St

/-! ### the tuple of a key, any tuple of ints and texts -/
section
variable {X : Cx} {pins : List (Addr × Obj)} {σ : St} {H : Hp} {s : Shared} {a b : Addr} {kvs : List (List Key × V)} {k : List Key} {v : V} {A : Around} {E : Value → Shared → Prop} {r : Value}
theorem key_sq (I : Inv X pins σ H s) (h : SqT X.K H b (k.map kV)) : (tupleKind (mixKind X.prog X.w)).is s.heap k b := by
  obtain ⟨its, r, pl, hz⟩ := I.tuple h
  obtain ⟨o, h1, h2, n, h3⟩ := pl
  exact ⟨o, its.toArray, n, h1, h2, h3, by simpa using items_are r⟩
/-- d[k], there -/
theorem dt_get {Q : Value → Shared → Prop} (hu : A.units + 1 < cLine) (I : Inv X pins σ H s) (e : Rd H a (.dT kvs)) (sq : SqT X.K H b (k.map kV)) (l : valV kvs k = some v) (h : ∀ w' s', Inv X pins σ H s' → RelV v w' → Q w' s') :
    wpAny (model X.prog X.w) A (getItem (.ref a) (.ref b)) Q E s := by
  obtain ⟨z, hd, xs, rel, dd⟩ := dt_rd I.hok e
  obtain ⟨w', hw, rw'⟩ := RelO.some_of (v := v) (o := (atKey xs k).map (·.2)) (by rw [← l]; exact rel.val k)
  obtain ⟨p, hp, hp2⟩ := Option.map_eq_some_iff.mp hw
  refine wpAny_getItem_heap (tupleKind_room_in1 hu) (key_sq I sq) dd hp ?_
  rw [hp2]
  exact h w' _ (I.tok _) rw'
/-- d[k] = v: k's own tuple, or a key that is there -/
theorem dt_set {Q : Unit → Shared → Prop} (hu : A.units + 1 < cLine) (I : Inv X pins σ H s) (e : H a = some (.dT kvs)) (sq : SqT X.K H b (k.map kV)) (ex : (valV kvs k).isSome = true ∨ H b = some (.tup (k.map kV))) (l : kvs.length < sizeLine) (rv : RelV v r)
    (h : ∀ s', Inv X pins σ (upd H a (.dT (putK kvs k v))) s' → Q () s') : wpAny (model X.prog X.w) A (setItem (.ref a) (.ref b) r) Q E s := by
  obtain ⟨z, hd, xs, rel, dd⟩ := dt_of I.hok e
  have hz : xs.length ≤ sizeLine := by rw [← Paired.length rel]; exact z
  have hl : (putK kvs k v).length ≤ sizeLine := by have := length_putK kvs k v; omega
  have rel2 : KT H (putK kvs k v) (storedH xs k b r) := by
    rcases ex with ex | eb
    · have e1 : (kvs.any fun kv => decide (kv.1 = k)) = true := by rw [valV_any]; exact ex
      have e2 : (atKey xs k).isSome = true := by
        have q := (rel.val k).isSome_eq
        rw [Option.isSome_map] at q
        rw [← q]; exact ex
      unfold putK storedH
      rw [if_pos e1, if_pos e2]
      exact rel.repl k rv
    · exact rel.put k eb rv
  refine wpAny_setItem_heap (hsz := hz) (tupleKind_room_in1 hu) (key_sq I sq) dd fun h' dd' hs => h _ ?_
  obtain ⟨q, es, ep, hq, h2, h3, h4, _, h5⟩ := dd'
  refine d_write I (by rw [e]; exact True.intro) hs ⟨q, hq⟩ ⟨hl, hd, _, rel2.keeps fun c ys ec => ?_, q, es, ep, hq, h2, h3, h4, h5⟩
  rw [upd_ne (ne_of ec e (fun z => nomatch z))]
  exact ec
theorem dt_typeIs (I : Inv X pins σ H s) (e : Rd H a (.dT kvs)) : s.TypeIs (.ref a) "dict" := by
  obtain ⟨_, _, xs, _, dd⟩ := dt_rd I.hok e
  exact dd.typeIs
end
def rGetT (K : PySem.W.Frag) : R2 := fun x y H Q => ∃ a b kvs k v, x = .ref a ∧ y = .ref b ∧ Rd H a (.dT kvs) ∧ SqT K H b (k.map kV) ∧ valV kvs k = some v ∧ Q v H
def rSetT (K : PySem.W.Frag) : TSet := fun o i v H Q => ∃ a b kvs k, o = .ref a ∧ i = .ref b ∧ H a = some (.dT kvs) ∧ SqT K H b (k.map kV) ∧ ((valV kvs k).isSome = true ∨ H b = some (.tup (k.map kV))) ∧ kvs.length < sizeLine ∧ Q (upd H a (.dT (putK kvs k v)))
section
variable {X : Cx}
theorem get_T (hu : X.A.units + 1 < cLine) : PGet X (rGetT X.K) := by
  intro pins s σ H o i ov iv Q I ro ri h
  obtain ⟨a, b, kvs, k, v, rfl, rfl, e, sq, l, q⟩ := h
  cases ro; cases ri
  exact dt_get hu I e sq l fun w' s' I' r => ⟨v, H, I', r, q⟩
theorem set_T (hu : X.A.units + 1 < cLine) : PSet X (rSetT X.K) := by
  intro pins s σ H o i v ov iv u Q I ro ri rv h
  obtain ⟨a, b, kvs, k, rfl, rfl, e, sq, ex, l, q⟩ := h
  cases ro; cases ri
  exact dt_set hu I e sq ex l rv fun s' I' => ⟨_, I', q⟩
theorem pe_getT {o i : Expr} {pos : Pos} {td ty : TE} (hu : X.A.units + 1 < cLine) (ho : PE X o td) (hi : PE X i ty) (hs : NoSl i) : PE X (.Subscript o i pos) (fun σ H Q => td σ H fun x H1 => ty σ H1 fun y H2 => rGetT X.K x y H2 Q) := by
  refine ⟨fun pins s σ H Q I h => ?_⟩
  refine subD_of PySem.F.slot_dict_getitem.lookup hs (thn (ho.run pins s σ H _ I h) fun u s1 ⟨x, H1, I1, rx, q1⟩ => thn (hi.run pins s1 σ H1 _ I1 q1) fun iv s2 ⟨y, H2, I2, ry, a, b, kvs, k, v, ex, ey, e, sq, l, q2⟩ => ?_)
  subst ex ey
  obtain rfl : u = Value.ref a := rx
  obtain rfl : iv = Value.ref b := ry
  exact ⟨dt_typeIs I2 e, dt_get hu I2 e sq l fun w' s3 I3 rw' => ⟨v, H2, I3, rw', q2⟩⟩
end
/-! ### keys as data -/
def keysD : List D → Option (List Key)
  | [] => some []
  | d :: ds => match keyD d, keysD ds with
    | some k, some ks => some (k :: ks)
    | _, _ => none
def dKeys : D → Option (List Key)
  | .tup _ ds => keysD ds
  | _ => none
theorem keysD_rds {K : PySem.W.Frag} {mg : Str → Option Value} {M : Addr → Prop} {p : List Addr} {H : Hp} : ∀ {ds : List D} {vs : List V} {ks : List Key}, RDs K mg M p H ds vs → keysD ds = some ks → vs = ks.map kV
  | [], _, _, h, e => by unfold RDs at h; subst h; cases e; rfl
  | d :: ds, _, ks, h, e => by
    unfold RDs at h
    obtain ⟨v, r, rfl, h2, h3⟩ := h
    unfold keysD at e
    cases y : keyD d with
    | none => simp only [y] at e; cases e
    | some k =>
      cases z : keysD ds with
      | none => simp only [y, z] at e; cases e
      | some k2 =>
        simp only [y, z] at e
        cases e
        rw [List.map_cons, ← keysD_rds h3 z]
        congr 1
        cases d <;> first | (cases y; unfold RD at h2; exact h2) | cases y
/-- the key that a tuple is -/
theorem dKeys_tv {K : PySem.W.Frag} {mg : Str → Option Value} {M : Addr → Prop} {p : List Addr} {H : Hp} {d : D} {v : V} {k : List Key} (t : TV K mg M p H d v) (e : dKeys d = some k) : ∃ b, v = .ref b ∧ SqT K H b (k.map kV) := by
  cases d with
  | tup z ds =>
    obtain ⟨a, vs, rfl, h2, h3⟩ := t
    have := keysD_rds h3 e
    subst this
    exact ⟨a, rfl, h2.sq⟩
  | _ => cases e
/-- what a dict with tuple keys holds -/
def moT : MO → Option (List (List Key × D))
  | .dctT kvs => some kvs
  | .fdT kvs => some kvs
  | _ => none
theorem moT_at {K : PySem.W.Frag} {mg : Str → Option Value} {M : Addr → Prop} {p : List Addr} {H : Hp} {a : Addr} {o : MO} {kvs : List (List Key × D)} (h : MR K mg M p H a o) (e : moT o = some kvs) : ∃ ws, Rd H a (.dT ws) ∧ RKs K mg M p H kvs ws := by
  cases o with
  | dctT k => cases e; obtain ⟨ws, h1, h2⟩ := h; exact ⟨ws, .inl h1, h2⟩
  | fdT k => cases e; obtain ⟨ws, ⟨q, h1⟩, h2⟩ := h; exact ⟨ws, .inr ⟨q, h1⟩, h2⟩
  | _ => cases e
def dGetT (S : Sto) (d e : D) : Option D := match d with
  | .ref n => ((S[n]?).bind moT).bind fun kvs => (dKeys e).bind (valD kvs)
  | _ => none
theorem ok_getT {K : PySem.W.Frag} {mg : Str → Option Value} : Op2OkS .r K mg (rGetT K) dGetT := by
  intro M p H S d e v w x Q R hd tv tw hg h
  cases d with
  | ref n =>
    simp only [dGetT] at hg
    obtain ⟨a, h1, rfl⟩ := tv
    cases es : S[n]? with
    | none => simp only [es, Option.bind_none] at hg; cases hg
    | some mo =>
      simp only [es, Option.bind_some] at hg
      cases em : moT mo with
      | none => rw [em] at hg; cases hg
      | some kvs =>
        simp only [em, Option.bind_some] at hg
        obtain ⟨a', h2, hmr⟩ := R.at_ n _ es
        rw [h1] at h2; cases h2
        obtain ⟨ws, h3, h4⟩ := moT_at hmr em
        cases ek : dKeys e with
        | none => rw [ek] at hg; cases hg
        | some k =>
          simp only [ek, Option.bind_some] at hg
          obtain ⟨b, rfl, sq⟩ := dKeys_tv tw ek
          obtain ⟨u, g1, g2⟩ := h4.val hg
          exact ⟨a, b, ws, k, u, rfl, rfl, h3, sq, g1, h.rd R hd g2⟩
  | _ => cases hg
section
variable {X : Cx} {W : WB} {c : Fc} {o ix value : Expr} {es : List Expr} {pos pos' tpos : Pos} {fo fi fv : Fx} {a : Ax}
theorem qGetT (cc : Cc X.K X.mg W c) (hu : X.A.units + 1 < cLine) (ho : PE X o (TX .t c fo)) (hi : PE X ix (TX .t c fi)) (hs : NoSl ix := by intro _ _; rfl) : PE X (.Subscript o ix pos) (TX .r c (f2S dGetT fo fi)) :=
  peW (pe_getT hu ho hi hs) fun σ H Q h => by
    have := twoS (r := rGetT c.K) ok_getT σ H Q h
    rw [cc.K] at this
    exact this
/-- {} -/
def fDNewT : Fx := fun _ S => .ok (.ref S.length) (S ++ [.dctT []])
theorem qDNewT : PE X (.Dict [] [] pos) (TX .r c fDNewT) := peW pe_dnewT fun σ H Q ⟨M, p, ow, ρ, S, R, h⟩ => by
  intro d hd
  obtain ⟨z1, z2, z3⟩ := R.h0 hd
  have R1 := R.newM (o := .dT []) hd
  have pd : d ∉ p := fun q => nofree hd R.dom (R.sto.inM d q) rfl
  have R2 := R1.add (a := d) (o := .dctT []) (.inr rfl) pd z1 z2 z3 ⟨[], upd_same, by unfold RKs; rfl⟩
  refine h (.ref d) _ _ _ ((Ext.newM hd).add hd) (fun _ m => .inl m) R2 ?_
  unfold Came RD
  exact ⟨d, by rw [List.getElem?_append_right (by rw [R.sto.len]; exact Nat.le_refl _), R.sto.len, Nat.sub_self]; rfl, rfl⟩
/-! ### d[(a, ..)] = e, the tuple written there -/
/-- the object n of the store, a dict with tuple keys, gets a key -/
def putT (S : Sto) (n : Nat) (k : List Key) (d : D) : Option Sto := match S[n]? with
  | some (.dctT kvs) => if kvs.length < 1000000 then some (S.set n (.dctT (putD kvs k d))) else none
  | _ => none
def tfKey (fo : Fx) (a : Ax) : Tf := fun d ρ S => thenG (fo ρ S) ρ fun o S1 => match o with
  | .ref n => (match a ρ S1 with
    | .ok ks S2 => (match (keysD ks).bind fun k => putT S2 n k d with
      | some S3 => if ks.length ≤ 1000000 then .nx ρ S3 else .stuck
      | none => .stuck)
    | .err c fs S => .err c fs ρ S
    | .stuck => .stuck)
  | _ => .stuck
def TupA (K : PySem.W.Frag) (mg : Str → Option Value) (W : WB) (a : Ax) : TE := fun σ H Q => ∃ c, Cc K mg W c ∧ tTup (TAx true c a) σ H Q
theorem store_T {M : Addr → Prop} {p : List Addr} {H : Hp} {S S' : Sto} {ow : Nat → Option Addr} {σ : St} {ρ : Rho} {n : Nat} {d : Addr} {k : List Key} {x : D} {v : V} (R : FR c M p H ow σ ρ S) (hd : p[n]? = some d) (e : putT S n k x = some S') (rd : RD c.K c.mg M p H x v) :
    ∃ kvs ws, S[n]? = some (.dctT kvs) ∧ H d = some (.dT ws) ∧ RKs c.K c.mg M p H kvs ws ∧ ws.length < sizeLine ∧ FR c M p (upd H d (.dT (putK ws k v))) ow σ ρ S' := by
  unfold putT at e
  split at e
  · rename_i kvs es
    split at e
    · rename_i hl
      cases e
      obtain ⟨d', g1, ws, g2, g3⟩ := R.sto.at_ n _ es
      rw [hd] at g1; cases g1
      have hM := R.sto.inM d (List.mem_of_getElem? hd)
      have mu := R.sto.muts d (List.mem_of_getElem? hd)
      exact ⟨kvs, ws, es, g2, g3, millT (by rw [g3.length]; exact Nat.le_of_lt hl), R.store hd (fun q u e => by rw [g2] at e; cases e) ⟨_, upd_same, RKs.chg hM (by rw [g2]; trivial) _ _ (g3.put rd)⟩⟩
    · cases e
  · cases e
theorem qxKey {x1 : Nat} {p1 : Pos} (hu : X.A.units + 1 < cLine) (ho : ∀ c, Cc X.K X.mg W c → PE X o (TX .t c fo)) (ha : ∀ c, Cc X.K X.mg W c → PA X es (TAx true c a))
    (has : ∀ v, assign (.Subscript o (.Tuple es x1 p1) tpos) X.env v = (do
      let ov ← holding [v] (eval o X.env)
      let iv ← holding [v, ov] (eval (.Tuple es x1 p1) X.env)
      standAt tpos
      holding [v, ov, iv] (setItem ov iv v)
      release [v, ov, iv] []) := by intro _; rfl) : PG X (.Subscript o (.Tuple es x1 p1) tpos) (gX X.K X.mg W (tfKey fo a)) := by
  have hi : PE X (.Tuple es x1 p1) (TupA X.K X.mg W a) := ⟨fun pins s σ H Q J ⟨c, cc, q⟩ => (pe_tup (ha c cc)).run pins s σ H Q J q⟩
  refine pgW (pg_sub (toA ho) hi (set_T hu) has) fun v σ H Q ⟨c, M, p, ow, ρ, S, d, cc, R, rd, h⟩ => ?_
  unfold tfKey at h
  refine ⟨c, cc, M, p, ow, ρ, S, R, (RS.then (k := .t) h).mono fun ov H0 ⟨ob, S0, M0, p0, e0, R0, t0, h0⟩ => ?_⟩
  have rd0 := RD.ext e0 R.sto.muts R.sto.inM d v rd
  cases ob with
  | ref n =>
    obtain ⟨b, h3, rfl⟩ := t0
    refine ⟨c, cc, M0, p0, ow, ρ, S0, R0, ?_⟩
    simp only at h0
    cases z : a ρ S0 with
    | stuck => rw [z] at h0; exact h0.elim
    | err nn fs S' => rw [z] at h0; exact fun C d M' p' H' hc e m R' t => h0 C d σ M' p' H' ow hc R' t
    | ok ks S1 =>
      simp only [z] at h0
      intro vs M1 p1 H1 e1 m1 R1 t1
      have rk := t1.rds
      cases y : keysD ks with
      | none => simp only [y, Option.bind_none] at h0; exact h0.elim
      | some k =>
        simp only [y, Option.bind_some] at h0
        have ek := keysD_rds rk y
        subst ek
        cases w : putT S1 n k d with
        | none => simp only [w] at h0; exact h0.elim
        | some S2 =>
          simp only [w] at h0
          split at h0
          · rename_i hl
            have l1 := rk.length
            refine ⟨mill (by rw [l1]; exact hl), fun t ht => ?_⟩
            have R2 := R1.new (o := .tup (k.map kV)) ht
            have rd2 := RD.ext (e1.trans (Ext.new (o := .tup (k.map kV)) ht)) R0.sto.muts R0.sto.inM d v rd0
            obtain ⟨kvs, ws, g1, g2, g3, g4, R3⟩ := store_T R2 (e1.get h3) w rd2
            exact ⟨b, t, ws, k, rfl, rfl, g2, SqT.of upd_same, .inr upd_same, g4, h0 _ _ _ _ _ R3⟩
          · exact h0.elim
  | _ => exact h0.elim
/-! ### d[k] = e, k there -/
def tfKeyV (fo fi : Fx) : Tf := fun d ρ S => thenG (fo ρ S) ρ fun o S1 => match o with
  | .ref n => thenG (fi ρ S1) ρ fun y S2 => (match (dKeys y).bind fun k => if ((((S2[n]?).bind moT).bind fun kvs => valD kvs k).isSome) then putT S2 n k d else none with
    | some S3 => .nx ρ S3
    | none => .stuck)
  | _ => .stuck
theorem there_T {K : PySem.W.Frag} {mg : Str → Option Value} {M : Addr → Prop} {p : List Addr} {H : Hp} {kvs : List (List Key × D)} {ws : List (List Key × V)} {k : List Key} (h : RKs K mg M p H kvs ws) (e : (valD kvs k).isSome = true) : (valV ws k).isSome = true := by
  obtain ⟨d, hd⟩ := Option.isSome_iff_exists.mp e
  obtain ⟨v, h1, _⟩ := h.val hd
  rw [h1]; rfl
theorem qxKeyV (hu : X.A.units + 1 < cLine) (ho : ∀ c, Cc X.K X.mg W c → PE X o (TX .t c fo)) (hi : ∀ c, Cc X.K X.mg W c → PE X ix (TX .t c fi))
    (has : ∀ v, assign (.Subscript o ix tpos) X.env v = (do
      let ov ← holding [v] (eval o X.env)
      let iv ← holding [v, ov] (eval ix X.env)
      standAt tpos
      holding [v, ov, iv] (setItem ov iv v)
      release [v, ov, iv] []) := by intro _; rfl) : PG X (.Subscript o ix tpos) (gX X.K X.mg W (tfKeyV fo fi)) :=
  pgW (pg_sub (toA ho) (toA hi) (set_T hu) has) fun v σ H Q ⟨c, M, p, ow, ρ, S, d, cc, R, rd, h⟩ => by
    unfold tfKeyV at h
    refine ⟨c, cc, M, p, ow, ρ, S, R, (RS.then (k := .t) h).mono fun ov H0 ⟨ob, S0, M0, p0, e0, R0, t0, h0⟩ => ?_⟩
    have rd0 := RD.ext e0 R.sto.muts R.sto.inM d v rd
    cases ob with
    | ref n =>
      obtain ⟨b, h3, rfl⟩ := t0
      refine ⟨c, cc, M0, p0, ow, ρ, S0, R0, (RS.then (k := .t) h0).mono fun w H1 ⟨y, S1, M1, p1, e1, R1, t1, q1⟩ => ?_⟩
      have rd1 := RD.ext e1 R0.sto.muts R0.sto.inM d v rd0
      cases ek : dKeys y with
      | none => simp only [ek, Option.bind_none] at q1; exact q1.elim
      | some k =>
        simp only [ek, Option.bind_some] at q1
        obtain ⟨t, rfl, sq⟩ := dKeys_tv t1 ek
        by_cases hs : (((S1[n]?).bind moT).bind fun kvs => valD kvs k).isSome = true
        · rw [if_pos hs] at q1
          cases w : putT S1 n k d with
          | none => simp only [w] at q1; exact q1.elim
          | some S2 =>
            simp only [w] at q1
            obtain ⟨kvs, ws, g1, g2, g3, g4, R3⟩ := store_T R1 (e1.get h3) w rd1
            rw [g1] at hs
            exact ⟨b, t, ws, k, rfl, rfl, g2, by rw [← cc.K]; exact sq, .inl (there_T g3 hs), g4, q1 _ _ _ _ _ R3⟩
        · rw [if_neg hs] at q1; exact q1.elim
    | _ => exact h0.elim
/-! ### d[k] op= e, k there -/
def gAugT (fo fi fv : Fx) (op : D → D → Option D) : Gx := fun ρ S => thenG (fo ρ S) ρ fun o S1 => match o with
  | .ref n => thenG (fi ρ S1) ρ fun y S2 => (match dKeys y with
    | some k => (match ((S2[n]?).bind moT).bind fun kvs => valD kvs k with
      | some x => thenG (fv ρ S2) ρ fun w S3 => (match op x w with
        | some z => (match (if ((((S3[n]?).bind moT).bind fun kvs => valD kvs k).isSome) then putT S3 n k z else none) with
          | some S4 => .nx ρ S4
          | none => .stuck)
        | none => .stuck)
      | none => .stuck)
    | none => .stuck)
  | _ => .stuck
theorem qAugT {op : Operator} {rop : R2} {dop : D → D → Option D} (cc : Cc X.K X.mg W c) (hu : X.A.units + 1 < cLine) (hop : OpR X (inplaceOp op) rop) (ok : Op2Ok .r c.K c.mg rop dop) (ho : PE X o (TX .t c fo)) (hi : PE X ix (TX .t c fi)) (hv : PE X value (TX .t c fv))
    (ha : ∀ ov iv new, augStore ix ov iv new = (do holding [new, ov, iv] (setItem ov iv new); release [new, ov, iv] []; pure .next) := by intros; rfl) : PS X (.AugAssign (.Subscript o ix tpos) op value pos) (TSx c (gAugT fo fi fv dop)) :=
  psW (ps_augS ho hi (get_T hu) hv hop (set_T hu) ha) fun D σ H ⟨M, p, ow, ρ, S, R, h⟩ => by
    unfold gAugT at h
    refine ⟨M, p, ow, ρ, S, R, (RS.then (k := .t) h).mono fun ov H0 ⟨ob, S0, M0, p0, e0, R0, t0, h0⟩ => ?_⟩
    cases ob with
    | ref n =>
      obtain ⟨b, h3, rfl⟩ := t0
      refine ⟨M0, p0, ow, ρ, S0, R0, (RS.then (k := .t) h0).mono fun w H1 ⟨y, S1, M1, p1, e1, R1, t1, q1⟩ => ?_⟩
      cases ek : dKeys y with
      | none => simp only [ek] at q1; exact q1.elim
      | some k =>
        simp only [ek] at q1
        obtain ⟨t, rfl, sq⟩ := dKeys_tv t1 ek
        cases ev : ((S1[n]?).bind moT).bind fun kvs => valD kvs k with
        | none => simp only [ev] at q1; exact q1.elim
        | some x =>
          simp only [ev] at q1
          cases es : S1[n]? with
          | none => rw [es] at ev; cases ev
          | some mo =>
            rw [es] at ev
            cases em : moT mo with
            | none => simp only [Option.bind_some, em, Option.bind_none] at ev; cases ev
            | some kvs =>
              simp only [Option.bind_some, em] at ev
              obtain ⟨b', k1, hmr⟩ := R1.sto.at_ n _ es
              rw [e1.get h3] at k1; cases k1
              obtain ⟨ws, k2, k3⟩ := moT_at hmr em
              obtain ⟨u, k4, k5⟩ := k3.val ev
              refine ⟨b, t, ws, k, u, rfl, rfl, k2, by rw [← cc.K]; exact sq, k4, M1, p1, ow, ρ, S1, R1, (RS.then (k := .t) q1).mono fun w2 H2 ⟨y0, S2, M2, p2, e2, R2, t2, q2⟩ => ?_⟩
              have rdx := RD.ext e2 R1.sto.muts R1.sto.inM _ _ k5
              have sq2 : SqT c.K H2 t (k.map kV) := e2.rdT R1.sto.muts sq
              cases y3 : dop x y0 with
              | none => simp only [y3] at q2; exact q2.elim
              | some z0 =>
                simp only [y3] at q2
                refine ok M2 p2 H2 S2 x y0 u w2 z0 _ R2.sto R2.dom (RD.tv R2.sto.inM rdx) t2 y3 ?_
                intro zz M3 p3 H3 e3 m3 s3 d3 cm
                have R3 := R2.step e3 m3 s3 d3
                have sq3 : SqT c.K H3 t (k.map kV) := e3.rdT R2.sto.muts sq2
                by_cases hs : (((S2[n]?).bind moT).bind fun kvs => valD kvs k).isSome = true
                · rw [if_pos hs] at q2
                  cases w : putT S2 n k z0 with
                  | none => simp only [w] at q2; exact q2.elim
                  | some S4 =>
                    simp only [w] at q2
                    obtain ⟨kvs', ws', g1, g2, g3, g4, R4⟩ := store_T R3 (e3.get (e2.get (e1.get h3))) w cm
                    rw [g1] at hs
                    exact ⟨b, t, ws', k, rfl, rfl, g2, by rw [← cc.K]; exact sq3, .inl (there_T g3 hs), g4, q2 _ _ _ _ _ R4⟩
                · rw [if_neg hs] at q2; exact q2.elim
    | _ => exact h0.elim
end
end QL

set_option Elab.async false
set_option linter.all false
set_option maxRecDepth 100000
/-! RE: dicts with tuple keys walked: items, keys; sorted -/
namespace QL
open PySem PySem.Spec L2
open PyProof.Rows hiding St

/-- the pairs of the locked dict at d, each a new tuple of the key's own tuple and the value -/
def Itit (d : Addr) (o : Obj) (kvs : List (List Key × V)) : It :=
  ⟨fun i H => H d = some (.frz o (.dT kvs)) ∧ i < kvs.length, fun i H x H' => ∃ (T : Addr) (k : List Key) (v : V) (q : Addr), kvs[i]? = some (k, v) ∧ x = .ref T ∧ H q = some (.tup (k.map kV)) ∧ H T = none ∧ H' = upd H T (.tup [.ref q, v]), fun i H => H d = some (.frz o (.dT kvs)) ∧ kvs.length ≤ i⟩
section
variable {X : Cx} {pins : List (Addr × Obj)} {σ : St} {H : Hp} {s : Shared} {d : Addr} {o : Obj}
theorem frzTv {kvs : List (List Key × V)} (I : Inv X pins σ H s) (h : H d = some (.frz o (.dT kvs))) :
    (d == sysModules) = false ∧ s.heap.get? d = some o ∧ o.ExactDict ∧ ∃ (es : Array DictEntry) (ep : Nat), o.data = .dict es ep ∧ es.size = kvs.length ∧
      ∀ (i : Nat) (k : List Key) (v : V), kvs[i]? = some (k, v) → ∃ (en : DictEntry) (q : Addr), es[i]? = some en ∧ en.key = .ref q ∧ H q = some (.tup (k.map kV)) ∧ RelV v en.val := by
  obtain ⟨hd, z, hs, xs, pr, o', es, ep, ho, hx, hdt, he, _⟩ := I.hok d _ h
  rw [hd] at ho
  cases ho
  refine ⟨hs, hd, hx, es, ep, hdt, ?_, fun i k v e => ?_⟩
  · have l1 : es.size = xs.length := size_of_entries he
    have l2 : kvs.length = xs.length := Paired.length pr
    omega
  · obtain ⟨b, hb, e1, e2, e3⟩ := L2.paired_get pr e
    have q := entry_at he i
    rw [hb] at q
    exact ⟨_, b.2.1, q, rfl, e2, e3⟩
end
section
variable {P : Program} {w : World} {K : PySem.W.Frag} {d : Addr} {o : Obj} {es : Array DictEntry} {ep : Nat}
theorem turn_itemsT {kvs : List (List Key × V)} {elts : List Expr} {kk : Nat} {tpos : Pos} (it : Addr) (hod : o.data = .dict es ep) :
    Turn P w K (.Tuple elts kk tpos) (Itit d o kvs) [it] it (fun i h => ∃ ok ov, IsItemIter h it d i kvs.length ep ok ov) where
  mem := by simp
  obj := fun i h st b hb => by
    have e : b = it := by simpa using hb
    subst e
    obtain ⟨ok, ov, e⟩ := st
    exact ⟨_, e, fun v z => nomatch z⟩
  keep := fun i h h' st k => let ⟨ok, ov, e⟩ := st; ⟨ok, ov, k it (by simp) _ e⟩
  item := by
    intro X hP hw hK hc i pins s σ H E I hf st hg
    subst hP hw hK
    obtain ⟨hd, hi⟩ := hg
    obtain ⟨hs, hgd, hx, es', ep', hdt, hsz, ent⟩ := frzTv I hd
    obtain ⟨rfl, rfl⟩ := dict_ep hod hdt
    obtain ⟨⟨k, v⟩, hkv⟩ : ∃ p, kvs[i]? = some p := ⟨kvs[i], List.getElem?_eq_getElem hi⟩
    obtain ⟨en, q, hen, hkey, hq, rv⟩ := ent i k v hkv
    obtain ⟨ok, ov, he⟩ := st
    rw [← hsz] at he
    have hlt : it < s.heap.objs.size := Heap.lt_size he
    have hie : i < es'.size := by omega
    have een : es'[i] = en := by
      rw [Array.getElem?_eq_getElem hie] at hen
      exact Option.some.inj hen
    refine DT.nextI he ⟨o, hgd, hx, hdt⟩ hie fun h' ho hT hz hk => ?_
    rw [een] at ho hT
    refine ⟨_, rfl, wpAny_letOwnedTupleGo_items (s := { s with heap := h' }) ho fun h'' he' sb => ?_⟩
    have hT2 : h''.get? s.heap.objs.size = some { cls := .type "tuple", data := .seq #[en.key, en.val] } := (sb.2 _ (Nat.ne_of_gt hlt)).trans hT
    have new : ObjOk X.prog X.w (upd H s.heap.objs.size (.tup [.ref q, v])) h'' s.heap.objs.size (.tup [.ref q, v]) :=
      ⟨by show 2 ≤ sizeLine; decide, [en.key, en.val], .cons hkey (.cons rv .nil), ⟨_, hT2, rfl, _, rfl⟩⟩
    have I1 : Inv X pins σ (upd H s.heap.objs.size (.tup [.ref q, v])) { s with heap := h'' } :=
      I.turnedNew (t' := s.toks) (ch := [it]) (fun b ob hb e => (sb.2 b (by simpa using hb)).trans (hk b ob (by simpa using hb) e)) hf (Nat.le_refl _) new
    refine ⟨.ref s.heap.objs.size, _, I1, rfl, ⟨_, k, v, q, hkv, rfl, hq, I.hok.fresh (Nat.le_refl _), rfl⟩, ⟨en.key, en.val, ?_⟩, fun b hb => ?_⟩
    · rw [← hsz]; exact he'
    · have e : b = it := by simpa using hb
      rw [e, upd_ne (Nat.ne_of_lt hlt)]
      exact (hf it (by simp)).1
  done := by
    intro X hP hw hK hc i pins s σ H E I hf st hg
    subst hP hw hK
    obtain ⟨hd, hi⟩ := hg
    obtain ⟨f0, f1, f2, f3, f4, f5⟩ := hf it (by simp)
    obtain ⟨hs, hgd, hx, es', ep', hdt, hsz, ent⟩ := frzTv I hd
    obtain ⟨rfl, rfl⟩ := dict_ep hod hdt
    obtain ⟨ok, ov, he⟩ := st
    rw [← hsz] at he
    exact DT.endI (I.ok.hd hc) he ⟨o, hgd, hx, hdt⟩ (by omega) fun h' eb => ⟨rfl, I.turned (t' := s.toks) (fun b ob hb e => eb b ob hb e) f0 f1 f3 f4 f5⟩
  self := fun A i s Q E st h => let ⟨_, _, e⟩ := st; PySem.W.kcp_self e h
end
/-- the dict is locked from then on -/
def iItemsT (td : TE) : TI := fun σ H R => td σ H fun x H1 => ∃ d kvs, x = .ref d ∧ ((H1 d = some (.dT kvs) ∧ ∀ o, R (Itit d o kvs) (upd H1 d (.frz o (.dT kvs)))) ∨ ∃ o, H1 d = some (.frz o (.dT kvs)) ∧ R (Itit d o kvs) H1)
section
variable {X : Cx} {e : Expr} {td : TE} {apos cpos : Pos}
theorem pi_itemsT {elts : List Expr} {kk : Nat} {tpos : Pos} (he : PE X e td) (hbase : attributeBase e "items" X.env (eval e X.env) = eval e X.env := by rfl) (hline : (apos.endLine == cpos.line) = true := by rfl) :
    PI X (.Tuple elts kk tpos) (.Call (.Attribute e "items" apos) [] [] cpos) (iItemsT td) := by
  refine ⟨fun pins s σ H R I h => ?_⟩
  refine wpAny_Call_method (T := "dict") (id := "dict.items") hbase rfl hline F.plainAttrs_dict F.slot_dict_items F.type_dict_items (thn (he.run pins s σ H _ I h) fun u s1 ⟨x, H1, I1, rx, d, kvs, ex, q⟩ => ?_)
  subst ex
  obtain rfl : u = Value.ref d := rx
  obtain ⟨o, H2, I2, hd, q2⟩ : ∃ o H2, L2.Inv X pins σ H2 s1 ∧ H2 d = some (.frz o (.dT kvs)) ∧ R (Itit d o kvs) H2 := by
    rcases q with ⟨h1, h2⟩ | ⟨o, h1, h2⟩
    · obtain ⟨o, I2⟩ := I1.lock h1 True.intro
      exact ⟨o, _, I2, upd_same, h2 o⟩
    · exact ⟨o, H1, I1, h1, h2⟩
  obtain ⟨hs, hgd, hx, es, ep, hdt, hsz, ent⟩ := frzTv I2 hd
  have raw : DT.Raw s1.heap d es ep := ⟨o, hgd, hx, hdt⟩
  refine ⟨raw.typeIs, fun b q => ?_, ?_⟩
  · cases q
    exact ⟨o, hgd, hx.2.1⟩
  have I3 : L2.Inv X pins σ H2 { s1 with heap := s1.heap.push { cls := .type "dict_items", data := .fields #[.ref d] } } := I2.kept (t' := s1.toks) fun b ob q => Heap.get?_push_of_some _ q
  have fin : wpAny (model X.prog X.w) X.A (pyIter (.ref s1.heap.objs.size)) (PIE X pins σ (.Tuple elts kk tpos) R) X.xe { s1 with heap := s1.heap.push { cls := .type "dict_items", data := .fields #[.ref d] } } := by
    refine DT.iterI (d := d) (es := es) (ep := ep) ⟨_, Heap.get?_push_size _ rfl, rfl, rfl⟩ (raw.push _) (pi_one (tk := s1.toks) I3 _ (turn_itemsT _ hdt) ⟨.none, .none, ?_⟩ q2)
    rw [← hsz]
    exact Heap.get?_push_size _ rfl
  show wpAny _ _ (callWith cpos (.builtin "dict.items") [.ref d] [] []) _ X.xe s1
  exact method_meetsIn F.slot_dict_items F.entry_dict_items rfl (PySem.evalArgs_none ⟨rfl, raw.typeIs, F.args_dict_items_1 _, _, DT.meetsItems (es := es) (ep := ep) hs, raw, fin⟩)
end
/-! ### by contents -/
/-- the keys, as tuples -/
def kyD (k : List Key) : D := .tup false (k.map fun k => match k with
  | .inl i => .int i
  | .inr x => .str x)
section
variable {K : PySem.W.Frag} {mg : Str → Option Value} {M M' : Addr → Prop} {p p' : List Addr} {H H' : Hp} {own : Addr → Prop}
theorem ky_rds : ∀ (k : List Key), RDs K mg M p H (k.map fun k => match k with
  | .inl i => D.int i
  | .inr x => D.str x) (k.map kV)
  | [] => RDs.nil
  | .inl i :: k => RDs.cons (by unfold RD; rfl) (ky_rds k)
  | .inr x :: k => RDs.cons (by unfold RD; rfl) (ky_rds k)
theorem ky_rd {k : List Key} {q : Addr} (h : H q = some (.tup (k.map kV))) : RD K mg M p H (kyD k) (.ref q) := by
  unfold kyD RD
  exact ⟨q, _, rfl, SqT.of h, ky_rds k⟩
theorem RKs.get {κ : Type} : ∀ {ds : List (κ × D)} {ws : List (κ × V)} {i : Nat} {kd : κ × D}, RKs K mg M p H ds ws → ds[i]? = some kd → ∃ v, ws[i]? = some (kd.1, v) ∧ RD K mg M p H kd.2 v
  | [], _, _, _, _, e => by simp at e
  | d :: ds, _, 0, kd, h, e => by
    unfold RKs at h
    obtain ⟨v, r, rfl, h2, h3⟩ := h
    simp at e; subst e
    exact ⟨v, rfl, h2⟩
  | d :: ds, _, i + 1, kd, h, e => by
    unfold RKs at h
    obtain ⟨v, r, rfl, h2, h3⟩ := h
    obtain ⟨w, e1, e2⟩ := RKs.get (i := i) h3 (by simpa using e)
    exact ⟨w, by simpa using e1, e2⟩
theorem RKs.stb {κ : Type} (A : Ab M p H own) (s : Stb M p H own M' p' H') : ∀ {ds : List (κ × D)} {ws : List (κ × V)}, RKs K mg M p H ds ws → RKs K mg M' p' H' ds ws
  | [], _, h => by unfold RKs at h ⊢; exact h
  | d :: ds, _, h => by
    unfold RKs at h ⊢
    obtain ⟨v, r, rfl, h2, h3⟩ := h
    exact ⟨v, r, rfl, RD.stb A s _ v h2, RKs.stb A s h3⟩
theorem walks_itT {d : Addr} {o : Obj} {kvs : List (List Key × D)} {ws : List (List Key × V)} (A : Ab M p H own) (no : ¬ own d) (hd : H d = some (.frz o (.dT ws))) (r : RKs K mg M p H kvs ws) : WalksD K mg (Itit d o ws) M p H own (kvs.map fun kv => .tup false [kyD kv.1, kv.2]) := by
  intro M' p' H' s hm hM hdm i
  have q := s.fz d o _ hd no
  have r' := RKs.stb A s r
  rw [List.getElem?_map, List.length_map]
  cases e : kvs[i]? with
  | none =>
    intro ei
    refine ⟨q, ?_⟩
    rw [r.length, ei]
    exact Nat.le_refl _
  | some kd =>
    obtain ⟨v, hv, rv⟩ := RKs.get r' e
    refine ⟨⟨q, ?_⟩, fun x H'' y => ?_⟩
    · exact (List.getElem?_eq_some_iff.mp hv).1
    · obtain ⟨T, k, v', b, e1, rfl, e2, e3, rfl⟩ := y
      rw [hv] at e1
      cases e1
      refine ⟨Ext.new e3, fun a ha => upd_ne fun z => ha (by rw [z]; exact e3), ?_⟩
      unfold RD
      refine ⟨T, _, rfl, SqT.of upd_same, RDs.cons (ky_rd ?_) (RDs.cons (RD.ext (Ext.new e3) hm hM _ v rv) RDs.nil)⟩
      rw [upd_ne (ne_of_none e2 e3)]
      exact e2
end
/-- .items() of a dict with tuple keys, which is locked from then on -/
def fItemsT (f : Fx) : Ax := fun ρ S => match f ρ S with
  | .ok (.ref n) S1 => (match S1[n]? with
    | some (.dctT kvs) => .ok (kvs.map fun kv => .tup false [kyD kv.1, kv.2]) (S1.set n (.fdT kvs))
    | some (.fdT kvs) => .ok (kvs.map fun kv => .tup false [kyD kv.1, kv.2]) S1
    | _ => .stuck)
  | .err n fs S => .err n fs S
  | _ => .stuck
section
variable {X : Cx} {c : Fc} {e : Expr} {f : Fx} {apos cpos : Pos} {b : Bool}
theorem qiItemsT (hK : c.K = X.K) {elts : List Expr} {kk : Nat} {tpos : Pos} (he : PE X e (TX .t c f)) (hbase : attributeBase e "items" X.env (eval e X.env) = eval e X.env := by rfl) (hline : (apos.endLine == cpos.line) = true := by rfl) :
    PI X (.Tuple elts kk tpos) (.Call (.Attribute e "items" apos) [] [] cpos) (TIx b c (fItemsT f)) := piW (pi_itemsT he hbase hline) fun σ H R ⟨M, p, ow, ρ, S, F, h⟩ => by
  refine ⟨M, p, ow, ρ, S, F, ?_⟩
  unfold fItemsT at h
  cases z : f ρ S with
  | stuck => rw [z] at h; exact h
  | err n fs S' => rw [z] at h; exact h
  | ok d S1 =>
    rw [z] at h
    intro v M1 p1 H1 e1 m1 R1 t1
    cases d with
    | ref n =>
      obtain ⟨a, ha, rfl⟩ := t1
      cases y : S1[n]? with
      | none => simp only [y] at h; exact h.elim
      | some mo =>
        cases mo with
        | dctT kvs =>
          simp only [y] at h
          obtain ⟨a', g1, ws, g2, g3⟩ := R1.sto.at_ n _ y
          rw [ha] at g1; cases g1
          have hm := List.mem_of_getElem? ha
          have hM := R1.sto.inM a hm
          have mu := R1.sto.muts a hm
          have nf : ∀ q u, H1 a ≠ some (.frz q u) := fun q u e => by rw [g2] at e; cases e
          refine ⟨a, ws, rfl, .inl ⟨g2, fun o => ?_⟩⟩
          have R2 := R1.store (ho := .frz o (.dT ws)) ha nf (o := .fdT kvs) ⟨ws, ⟨o, upd_same⟩, RKs.chg hM (by rw [g2]; trivial) _ _ g3⟩
          have no : ¬ ownP b ow a := fun ⟨_, j, q⟩ => (R1.own j a q).2.1 hm
          exact h _ _ _ _ (e1.trans (Ext.put hm nf)) m1 R2 (walks_itT R2.abP no upd_same (RKs.chg hM (by rw [g2]; trivial) _ _ g3))
        | fdT kvs =>
          simp only [y] at h
          obtain ⟨a', g1, ws, ⟨o, g2⟩, g3⟩ := R1.sto.at_ n _ y
          rw [ha] at g1; cases g1
          have hm := List.mem_of_getElem? ha
          have no : ¬ ownP b ow a := fun ⟨_, j, q⟩ => (R1.own j a q).2.1 hm
          exact ⟨a, ws, rfl, .inr ⟨o, g2, h _ _ _ _ e1 m1 R1 (walks_itT R1.abP no g2 g3)⟩⟩
        | _ => simp only [y] at h; exact h.elim
    | _ => exact h.elim
end
end QL

set_option Elab.async false
set_option linter.all false
set_option maxRecDepth 100000
/-! RF: sorted(d), the keys of d pairs of ints that stand in order -/
namespace QL
open PySem PySem.Spec L2
open PyProof.Rows hiding St

def isPairK : List Key → Bool
  | [.inl _, .inl _] => true
  | _ => false
def pairK : List Key → Int × Int
  | [.inl a, .inl b] => (a, b)
  | _ => (0, 0)
def upB : List (Int × Int) → Bool
  | [] => true
  | x :: r => (r.all fun y => !SrtO.lexB y x) && upB r
def keysUp (ks : List (List Key)) : Bool := ks.all isPairK && upB (ks.map pairK)
theorem upB_pw : ∀ {l : List (Int × Int)}, upB l = true → l.Pairwise fun p q => SrtO.lexB q p = false
  | [], _ => .nil
  | x :: r, h => by
    unfold upB at h
    rw [Bool.and_eq_true] at h
    refine .cons (fun y hy => ?_) (upB_pw h.2)
    have := List.all_eq_true.mp h.1 y hy
    simpa using this
/-- the pair at the address of a value -/
def kfH (H : Hp) : Value → Int × Int
  | .ref b => match H b with
    | some (.tup [.int i, .int j]) => (i, j)
    | _ => (0, 0)
  | _ => (0, 0)
theorem kfH_at {H : Hp} {b : Addr} {k : List Key} (h : H b = some (.tup (k.map kV))) (p : isPairK k = true) : kfH H (.ref b) = pairK k ∧ H b = some (.tup [.int (pairK k).1, .int (pairK k).2]) := by
  match k, p with
  | [.inl a, .inl c], _ =>
    refine ⟨?_, h⟩
    have h' : H b = some (.tup [.int a, .int c]) := h
    simp only [kfH, h', pairK]
theorem kt_keys {H : Hp} : ∀ {kvs : List (List Key × V)} {ks : List (List Key × Addr × Value)}, KT H kvs ks → (∀ k ∈ kvs.map (·.1), isPairK k = true) → (ks.map fun x => Value.ref x.2.1).map (kfH H) = (kvs.map (·.1)).map pairK
  | _, _, .nil, _ => rfl
  | _, _, .cons (a := a) (b := b) h t, q => by
    rw [List.map_cons, List.map_cons, List.map_cons, List.map_cons, kt_keys t fun k hk => q k (List.mem_cons_of_mem _ hk)]
    congr 1
    exact (kfH_at h.2.1 (q _ List.mem_cons_self)).1
theorem kt_mem {H : Hp} : ∀ {kvs : List (List Key × V)} {ks : List (List Key × Addr × Value)}, KT H kvs ks → (∀ k ∈ kvs.map (·.1), isPairK k = true) → ∀ v ∈ ks.map (fun x => Value.ref x.2.1), ∃ b, v = .ref b ∧ H b = some (.tup [.int (kfH H v).1, .int (kfH H v).2])
  | _, _, .nil, _, v, hv => nomatch hv
  | _, _, .cons (a := a) (b := b) h t, q, v, hv => by
    rw [List.map_cons] at hv
    rcases List.mem_cons.mp hv with rfl | hv
    · obtain ⟨e1, e2⟩ := kfH_at h.2.1 (q _ List.mem_cons_self)
      exact ⟨_, rfl, by rw [e1]; exact e2⟩
    · exact kt_mem t (fun k hk => q k (List.mem_cons_of_mem _ hk)) v hv
section
variable {X : Cx}
theorem call_sortedDT (hcalm : X.calm = true) : CallR X (.builtin "sorted") (fun xs H Q => ∃ (a : Addr) (kvs : List (List Key × V)), xs = [.ref a] ∧ Rd H a (.dT kvs) ∧ keysUp (kvs.map (·.1)) = true ∧ ∀ p bs, H p = none → IsKeys H kvs bs → Q (.ref p) (upd H p (.lst (bs.map V.ref)))) := by
  intro pins s σ H xs us Q I r h
  obtain ⟨d, kvs, rfl, hd, up, q⟩ := h
  obtain ⟨u, rfl, rx⟩ := r.one
  cases rx
  obtain ⟨z, hs, ks, pr, o, es, ep, ho, hx, hdt, he, hn⟩ := (show ObjOk X.prog X.w H s.heap d (.dT kvs) from hd.ok I.hok)
  have l1 : es.size = ks.length := size_of_entries he
  have l2 : kvs.length = ks.length := Paired.length pr
  unfold keysUp at up
  rw [Bool.and_eq_true] at up
  have allP : ∀ k ∈ kvs.map (·.1), isPairK k = true := List.all_eq_true.mp up.1
  refine Calls.call_function_entry PyProof.Rows.kind_sorted PyProof.Rows.plain_sorted PyProof.Rows.entry_sorted (PyProof.Rows.args_sorted1 _) ?_
  unfold Builtin.«sorted»
  refine wpAny_bind (m := checkCount "sorted" 1 1 _) (wpAny_pure ?_)
  refine wpAny_bind (PySem.W.kdu_collect (A := X.A.in1) (kdl_raw hs hx hdt) (I.ok.hd hcalm) ho (by omega) fun h' tk acc hk hacc => ?_)
  have ea : acc.toList = ks.map fun x => Value.ref x.2.1 := by
    have hl : acc.toList.length = ks.length := by rw [Array.length_toList, hacc.1]; exact l1
    apply List.ext_getElem?
    intro j
    rw [List.getElem?_map]
    cases hj : acc.toList[j]? with
    | none =>
      have h1 := List.getElem?_eq_none_iff.mp hj
      rw [List.getElem?_eq_none (by omega)]
      all_goals rfl
    | some v =>
      obtain ⟨en, hen, hv⟩ := hacc.2 j v (by rw [← Array.getElem?_toList]; exact hj)
      have qe := entry_at he j
      rw [hen] at qe
      cases hb : ks[j]? with
      | none =>
        rw [hb] at qe
        exact nomatch (show some en = none from qe)
      | some b =>
        rw [hb] at qe
        have e2 : en = entryOfKey (tupleKind (mixKind X.prog X.w)) b := Option.some.inj qe
        rw [hv, e2]
        all_goals rfl
  have hal : acc.toList.length = ks.length := by rw [ea, List.length_map]
  have I1 : Inv X pins σ H { s with heap := h', toks := tk } := I.kept hk
  have hz : acc.toList.length ≤ sizeLine := by omega
  refine wpAny_bind (wpAny_newList ?_ (by rw [hal]; omega))
  have hoL : (h'.push (seqObj "list" acc.toList.toArray 0)).get? h'.objs.size = some (seqObj "list" acc.toList.toArray 0) := Heap.get?_push_size _ rfl
  have hp : ∀ v ∈ acc.toList, Srt.IsPair (h'.push (seqObj "list" acc.toList.toArray 0)) v (kfH H v).1 (kfH H v).2 := fun v hv => by
    rw [ea] at hv
    obtain ⟨b, rfl, hb⟩ := kt_mem pr allP v hv
    obtain ⟨_, its2, r2, o, ho, hc, n, hd⟩ := I1.hok _ _ hb
    obtain ⟨u1, u2, rfl, ri, rj⟩ := vals2 r2
    obtain ⟨t1, rfl⟩ := ri
    obtain ⟨t2, rfl⟩ := rj
    exact ⟨b, o, t1, t2, n, rfl, Heap.get?_push_of_some _ ho, hc, hd⟩
  have srt : SrtO.Srtd (fun v u => SrtO.lexB (kfH H v) (kfH H u)) acc.toList := by
    have := upB_pw up.2
    rw [← kt_keys pr allP, ← ea] at this
    exact List.pairwise_map.mp this
  show wpAny _ _ _ _ _ { s with heap := h'.push (seqObj "list" acc.toList.toArray 0), toks := tk }
  refine wpAny_bind (wpAny_holding (wpAny_call_entry PyProof.Rows.slot_list_sort ⟨_, hoL, rfl⟩ PyProof.Rows.entry_list_sort
    (SrtO.list_sort_ord (s := { s with heap := h'.push (seqObj "list" acc.toList.toArray 0), toks := tk }) (SrtO.swo_lex (kfH H)) hoL hz (fun h2 => SrtO.pairs_sortableO (by omega) hp fun o e => ?_) fun out g1 g2 => ⟨_, rfl, ?_⟩) (PyProof.Rows.args_list_sort _)))
  · have e' : some o = some (seqObj "list" acc.toList.toArray 0) := e.symm.trans hoL
    cases e'
    intro c
    exact absurd (Value.type.inj c) (by decide)
  · have eo : out = acc.toList := SrtO.stb_uniq (SrtO.swo_lex (kfH H)) g1 srt g2
    subst eo
    obtain ⟨e', he'⟩ := PyProof.Rows.sortedHeap_at (vs := acc.toList) (out := acc.toList.toArray) hoL
    have eb : acc.toList = (ks.map fun x => x.2.1).map Value.ref := by rw [ea, List.map_map]; all_goals rfl
    have rv : Vals ((ks.map fun x => x.2.1).map V.ref) acc.toList := by rw [eb]; exact vals_refs _
    have hlen : ((ks.map fun x => x.2.1).map V.ref).length ≤ sizeLine := by rw [List.length_map, List.length_map]; omega
    refine wpAny_pure ⟨_, rfl, .ref h'.objs.size, upd H h'.objs.size (.lst ((ks.map fun x => x.2.1).map V.ref)), I1.laid (t' := tk) (fun b u e => ?_) (Nat.le_refl _)
      (show ObjOk X.prog X.w _ _ _ (.lst ((ks.map fun x => x.2.1).map V.ref)) from ⟨hlen, acc.toList, e', rv, he'⟩), rfl, q _ _ (I1.hok.fresh (Nat.le_refl _)) (isKeys_of pr)⟩
    have hb : b < h'.objs.size := Heap.lt_size e
    rw [PyProof.Rows.sortedHeap_old (Nat.ne_of_lt hb) (by rw [size_push']; exact Nat.lt_succ_of_lt hb)]
    exact Heap.get?_push_of_some _ e
end
/-! ### by contents -/
def dSortT (S : Sto) : List D → Option D
  | [.ref n] => ((S[n]?).bind moT).bind fun kvs => if keysUp (kvs.map (·.1)) then some (.lst (kvs.map fun kv => kyD kv.1)) else none
  | _ => none
section
variable {K : PySem.W.Frag} {mg : Str → Option Value} {M : Addr → Prop} {p : List Addr} {H : Hp}
theorem RKs.keys {κ : Type} : ∀ {ds : List (κ × D)} {ws : List (κ × V)}, RKs K mg M p H ds ws → ws.map (·.1) = ds.map (·.1)
  | [], _, h => by unfold RKs at h; subst h; rfl
  | d :: ds, _, h => by
    unfold RKs at h
    obtain ⟨v, r, rfl, h2, h3⟩ := h
    rw [List.map_cons, List.map_cons, RKs.keys h3]
theorem isKeys_rds : ∀ {kvs : List (List Key × D)} {ws : List (List Key × V)} {bs : List Addr}, RKs K mg M p H kvs ws → IsKeys H ws bs → RDs K mg M p H (kvs.map fun kv => kyD kv.1) (bs.map V.ref)
  | [], _, bs, h, k => by
    unfold RKs at h; subst h
    cases k
    exact RDs.nil
  | d :: ds, _, bs, h, k => by
    unfold RKs at h
    obtain ⟨v, r, rfl, h2, h3⟩ := h
    cases k with
    | cons e t =>
      rw [List.map_cons, List.map_cons]
      exact RDs.cons (ky_rd e) (isKeys_rds h3 t)
theorem ok_sortT : CallOk .f K mg (fun xs H Q => ∃ (a : Addr) (kvs : List (List Key × V)), xs = [.ref a] ∧ Rd H a (.dT kvs) ∧ keysUp (kvs.map (·.1)) = true ∧ ∀ p bs, H p = none → IsKeys H kvs bs → Q (.ref p) (upd H p (.lst (bs.map V.ref)))) dSortT := by
  intro M p H S ds vs x Q R hd t hg h
  unfold dSortT at hg
  split at hg
  · rename_i n
    obtain ⟨v, rfl, tv⟩ := hold_one t
    obtain ⟨a, ha, rfl⟩ := tv
    cases es : S[n]? with
    | none => simp only [es, Option.bind_none] at hg; cases hg
    | some mo =>
      simp only [es, Option.bind_some] at hg
      cases em : moT mo with
      | none => rw [em] at hg; cases hg
      | some kvs =>
        simp only [em, Option.bind_some] at hg
        obtain ⟨a', h2, hmr⟩ := R.at_ n _ es
        rw [ha] at h2; cases h2
        obtain ⟨ws, h3, h4⟩ := moT_at hmr em
        by_cases up : keysUp (kvs.map (·.1)) = true
        · rw [if_pos up] at hg
          cases hg
          refine ⟨a, ws, rfl, h3, by rw [h4.keys]; exact up, fun l bs hl hk => h.lst R hd (isKeys_rds h4 hk) hl⟩
        · rw [if_neg up] at hg; cases hg
  · cases hg
end
section
variable {X : Cx} {W : WB} {c : Fc} {e : Expr} {es : List Expr} {fr : Ax} {f : Fx} {p pos : Pos}
theorem qSortT (hc : X.calm = true) (hm : X.mg "sorted" = none) (ha : PA X (e :: es) (TAx false c fr)) (hg : Gl X "sorted" := by rfl) (he : starEach (e :: es) X.env = (false, eval e X.env) :: starEach es X.env := by rfl) (hpl : (backTo pos (starEach es X.env)).any (·.1) = false := by rfl) : PE X (.Call (.Name "sorted" p) (e :: es) [] pos) (TX .f c (fCall dSortT fr)) :=
  qCallB (call_sortedDT hc) ok_sortT hg hm boot_sorted ha (by decide) (by decide) he hpl
end
end QL

set_option Elab.async false
set_option linter.all false
set_option maxRecDepth 100000
/-! RG: lists of the store walked; what a printed proof of classes leans on -/
namespace QL
open PySem PySem.Spec L2
open PyProof.Rows hiding St

/-! ### a thing is locked once it is read -/
def tLk (t : TE) : TE := fun σ H Q => t σ H fun x H1 => (∃ a u, x = .ref a ∧ H1 a = some u ∧ Mut (some u) ∧ ∀ o, Q x (upd H1 a (.frz o u))) ∨ Q x H1
theorem pe_lk {X : Cx} {e : Expr} {t : TE} (h : PE X e t) : PE X e (tLk t) := by
  refine ⟨fun pins s σ H Q I hw => ?_⟩
  refine thn (h.run pins s σ H _ I hw) fun v s1 ⟨x, H1, I1, r, q⟩ => ?_
  rcases q with ⟨a, u, rfl, hu, mu, q⟩ | q
  · obtain ⟨o, I2⟩ := I1.lock hu mu
    exact ⟨_, _, I2, r, q o⟩
  · exact ⟨x, H1, I1, r, q⟩
/-- the items of a list of the store, which is locked from then on -/
def fItemsL (f : Fx) : Ax := fun ρ S => match f ρ S with
  | .ok (.ref n) S1 => (match S1[n]? with
    | some (.lst xs) => .ok xs (S1.set n (.fl xs))
    | some (.fl xs) => .ok xs S1
    | _ => .stuck)
  | .err n fs S => .err n fs S
  | _ => .stuck
section
variable {X : Cx} {W : WB} {c : Fc} {e : Expr} {f : Fx} {b : Bool} {pos : Pos}
theorem srcL (h : PE X e (TX .t c f)) : PE X e (TSc b c (fItemsL f)) := peW (pe_lk h) fun σ H Q ⟨M, p, ow, ρ, S, R, h⟩ => ⟨M, p, ow, ρ, S, R, by
  unfold fItemsL at h
  cases z : f ρ S with
  | stuck => rw [z] at h; exact h
  | err n fs S' => rw [z] at h; exact h
  | ok d S1 =>
    rw [z] at h
    intro v M1 p1 H1 e1 m1 R1 t1
    cases d with
    | ref n =>
      obtain ⟨a, ha, rfl⟩ := t1
      have hm := List.mem_of_getElem? ha
      have hM := R1.sto.inM a hm
      have no : ¬ ownP b ow a := fun ⟨_, j, q⟩ => (R1.own j a q).2.1 hm
      cases y : S1[n]? with
      | none => simp only [y] at h; exact h.elim
      | some mo =>
        cases mo with
        | lst xs =>
          simp only [y] at h
          obtain ⟨a', g1, vs, g2, g3⟩ := R1.sto.at_ n _ y
          rw [ha] at g1; cases g1
          have nf : ∀ q u, H1 a ≠ some (.frz q u) := fun q u e => by rw [g2] at e; cases e
          refine .inl ⟨a, _, rfl, g2, True.intro, fun o => ?_⟩
          have rd := RDs.chg (o := .frz o (.lst vs)) hM (by rw [g2]; trivial) _ _ g3
          have R2 := R1.store (ho := .frz o (.lst vs)) ha nf (o := .fl xs) ⟨vs, ⟨o, upd_same⟩, rd⟩
          exact h _ _ _ _ (e1.trans (Ext.put hm nf)) m1 R2 ⟨a, vs, rfl, rd, .inl (.inr (.inl ⟨o, upd_same⟩))⟩
        | fl xs =>
          simp only [y] at h
          obtain ⟨a', g1, vs, ⟨o, g2⟩, g3⟩ := R1.sto.at_ n _ y
          rw [ha] at g1; cases g1
          exact .inr (h _ _ _ _ e1 m1 R1 ⟨a, vs, rfl, g3, .inl (.inr (.inl ⟨o, g2⟩))⟩)
        | _ => simp only [y] at h; exact h.elim
    | _ => exact h.elim⟩
/-- {} with keys that are ints and texts -/
def fDNewK : Fx := fun _ S => .ok (.ref S.length) (S ++ [.dct []])
theorem qDNewK : PE X (.Dict [] [] pos) (TX .r c fDNewK) := peW pe_dnewK fun σ H Q ⟨M, p, ow, ρ, S, R, h⟩ => by
  intro d hd
  obtain ⟨z1, z2, z3⟩ := R.h0 hd
  have R1 := R.newM (o := .dK []) hd
  have pd : d ∉ p := fun q => nofree hd R.dom (R.sto.inM d q) rfl
  have R2 := R1.add (a := d) (o := .dct []) (.inr rfl) pd z1 z2 z3 ⟨[], upd_same, by unfold RKs; rfl⟩
  refine h (.ref d) _ _ _ ((Ext.newM hd).add hd) (fun _ m => .inl m) R2 ?_
  unfold Came RD
  exact ⟨d, by rw [List.getElem?_append_right (by rw [R.sto.len]; exact Nat.le_refl _), R.sto.len, Nat.sub_self]; rfl, rfl⟩
end
/-! ### methods, classes of the text -/
def MethAt (K : PySem.W.Frag) (mg : Str → Option Value) (cls m q : Str) (st : Stmt) (ps : List Str) : Prop := ∃ C f fd, mg cls = some (.ref C) ∧ Meth K C m f ∧ Fun K m q st f fd ∧ Binds K fd ps []
def InitAt (K : PySem.W.Frag) (mg : Str → Option Value) (cls q : Str) (st : Stmt) (ps : List Str) : Prop := ∃ C f fd, mg cls = some (.ref C) ∧ Mk K C f ∧ Fun K "__init__" q st f fd ∧ Binds K fd ps []
section
variable {P : Program} {w : World} {K : PySem.W.Frag} {mg : Str → Option Value} {base : Heap} {cls m q : Str} {st : Stmt} {N ps : List Str} {k : Nat} {g : Gx}
theorem held_mkM (A : MethAt K mg cls m q st ps) (T : ClsT K mg cls) (Sc : FnScope N ps (defScope st))
    (body : ∀ (f : Addr) (cdv : Value) (A : Around) (outer : List Env) (s : Shared) (H : Hp) (E : XK) (c : Fc), Cc K mg c.wb c → Room k (A.deeper (envOfC q (defScope st) s.heap.objs.size f cdv)) → A.guards = some [] →
      PSs (cxOf CX0 P w K mg base N q (defScope st) f cdv A outer s H E).nox (defBody st) (TSx c g)) : HeldM P w K mg base (k + 1) cls m (def0 ps.length N.length g) := by
  obtain ⟨C, f, fd, hC, M, F, B⟩ := A
  obtain ⟨C', hC', cl⟩ := T
  rw [hC] at hC'; cases hC'
  exact ⟨C, f, fd, ps, N.length, g, hC, cl, M, qFn F Sc fun cdv A outer s H E c hK hmg => body f cdv A outer s H E c ⟨hK, hmg, rfl⟩, B, rfl⟩
theorem held_mkI (A : InitAt K mg cls q st ps) (Sc : FnScope N ps (defScope st))
    (body : ∀ (f : Addr) (cdv : Value) (A : Around) (outer : List Env) (s : Shared) (H : Hp) (E : XK) (c : Fc), Cc K mg c.wb c → Room k (A.deeper (envOfC q (defScope st) s.heap.objs.size f cdv)) → A.guards = some [] →
      PSs (cxOf CX0 P w K mg base N q (defScope st) f cdv A outer s H E).nox (defBody st) (TSx c g)) : HeldI P w K mg base (k + 1) cls (def0 ps.length N.length g) := by
  obtain ⟨C, f, fd, hC, M, F, B⟩ := A
  exact ⟨C, f, fd, ps, N.length, g, hC, M, qFn F Sc fun cdv A outer s H E c hK hmg => body f cdv A outer s H E c ⟨hK, hmg, rfl⟩, B, rfl⟩
theorem cls_t {h : Heap} {C : Addr} (X : K.In h) (G : h.Ns mainGlobals mg) (a : PySem.W.nsIn K mainGlobals cls = some (some (.ref C))) (pg : PySem.W.plainGet K C Str.empty = true) (hd : PySem.W.hasDictIn K C = true) (po : PySem.W.plainOver K C = true) (sa : PySem.W.findIn K (.ref C) "__setattr__" = some (some (.builtin "object.__setattr__"))) : ClsT K mg cls :=
  ⟨C, PySem.W.mg_of X G a, pg, hd, po, sa⟩
theorem fld_t {h : Heap} {C : Addr} {f : Str} (X : K.In h) (G : h.Ns mainGlobals mg) (a : PySem.W.nsIn K mainGlobals cls = some (some (.ref C))) (n : PySem.W.findIn K (.ref C) f = some none) : FldT K mg cls f :=
  ⟨C, PySem.W.mg_of X G a, n⟩
theorem meth_at {h : Heap} {C f : Addr} {oc : Value} {od an : Option Addr} {osl : Array (Option Value)} {kV doc pm cdv ct : Value} (X : K.In h) (G : h.Ns mainGlobals mg) (a : PySem.W.nsIn K mainGlobals cls = some (some (.ref C)))
    (fi : PySem.W.findIn K (.ref C) m = some (some (.ref f))) (fn : PySem.W.isFn K (.ref f) = true)
    (l : K.lookup f = some ⟨oc, od, .func (PySem.W.fnOf m q (defArgs st) (defBody st) (defScope st) .none kV doc pm an cdv ct), osl⟩) (c : PySem.W.codeIn K cdv q = true) (k : PySem.W.keepIn K (.ref f) = true)
    (b : ∀ (kV doc pm : Value) (an : Option Addr) (cdv ct : Value) (us : List Value), us.length = ps.length → bindArgs (PySem.W.fnOf m q (defArgs st) (defBody st) (defScope st) .none kV doc pm an cdv ct) ⟨us, []⟩ = pure (ps.zip us)) : MethAt K mg cls m q st ps :=
  let F := fun_mk (st := st) l c k
  ⟨C, f, _, PySem.W.mg_of X G a, ⟨fi, fn, k⟩, F, F.binds b⟩
theorem init_at {h : Heap} {C f : Addr} {oc : Value} {od an : Option Addr} {osl : Array (Option Value)} {kV doc pm cdv ct : Value} (X : K.In h) (G : h.Ns mainGlobals mg) (a : PySem.W.nsIn K mainGlobals cls = some (some (.ref C)))
    (fi : PySem.W.findIn K (.ref C) "__init__" = some (some (.ref f))) (fn : PySem.W.isFn K (.ref f) = true) (mk : PySem.W.makesIn K C = true) (kc : PySem.W.keepIn K (.ref C) = true)
    (l : K.lookup f = some ⟨oc, od, .func (PySem.W.fnOf "__init__" q (defArgs st) (defBody st) (defScope st) .none kV doc pm an cdv ct), osl⟩) (c : PySem.W.codeIn K cdv q = true) (k : PySem.W.keepIn K (.ref f) = true)
    (b : ∀ (kV doc pm : Value) (an : Option Addr) (cdv ct : Value) (us : List Value), us.length = ps.length → bindArgs (PySem.W.fnOf "__init__" q (defArgs st) (defBody st) (defScope st) .none kV doc pm an cdv ct) ⟨us, []⟩ = pure (ps.zip us)) : InitAt K mg cls q st ps :=
  let F := fun_mk (st := st) l c k
  ⟨C, f, _, PySem.W.mg_of X G a, ⟨mk, fi, fn, kc⟩, F, F.binds b⟩
end
end QL

set_option Elab.async false
set_option linter.all false
set_option maxRecDepth 100000
set_option maxHeartbeats 0
/-! printed by gen.py: the defs of the text as functions over contents, and that their bodies do so -/
namespace K14
open PySem PySem.Spec L2 QL
open PyProof.Rows hiding St

def top (i : Nat) : Stmt := PySem.Challenge.pw_cordrules_k14_whole_counts_and_pair_numb.main.body.getD i (.Pass ⟨0, 0, 0, 0⟩)
structure Txt (K : PySem.W.Frag) (mg : Str → Option Value) : Prop where
  z_bool : mg "bool" = none
  z_enumerate : mg "enumerate" = none
  z_int : mg "int" = none
  z_isinstance : mg "isinstance" = none
  z_len : mg "len" = none
  z_list : mg "list" = none
  z_max : mg "max" = none
  z_min : mg "min" = none
  z_range : mg "range" = none
  z_repr : mg "repr" = none
  z_sorted : mg "sorted" = none
  z_str : mg "str" = none
  z_tuple : mg "tuple" = none
  c_CORD : ConstG K mg "CORD" (.str "cord")
  c_COUNT_CUSTOMS : ConstG K mg "COUNT_CUSTOMS" (.tup true [.str "began", .str "twice"])
  c_CUSTOMS : ConstG K mg "CUSTOMS" (.tup true [.str "any", .str "back", .str "through", .str "began", .str "twice", .str "never"])
  c_LEAST_CORDS : ConstG K mg "LEAST_CORDS" (.int 2)
  c_LEFT : ConstG K mg "LEFT" (.str "left")
  c_MOST_CORDS : ConstG K mg "MOST_CORDS" (.int 5)
  c_MOST_CROSSINGS : ConstG K mg "MOST_CROSSINGS" (.int 60)
  c_NEVER : ConstG K mg "NEVER" (.str "never")
  c_SIDES : ConstG K mg "SIDES" (.tup true [.str "left", .str "right"])
  c_TERM_CUSTOMS : ConstG K mg "TERM_CUSTOMS" (.tup true [.str "any", .str "back"])
  c_THROUGH : ConstG K mg "THROUGH" (.str "through")
  c_TWICE : ConstG K mg "TWICE" (.str "twice")
  k_FormStore : ClsT K mg "FormStore"
  k_TermTable : ClsT K mg "TermTable"
  f_FormStore_own_cords : FldT K mg "FormStore" "own_cords"
  f_FormStore_own_custom : FldT K mg "FormStore" "own_custom"
  f_FormStore_own_table : FldT K mg "FormStore" "own_table"
  f_TermTable_own_nodes : FldT K mg "TermTable" "own_nodes"
  f_TermTable_own_sizes : FldT K mg "TermTable" "own_sizes"
  f_TermTable_own_spots : FldT K mg "TermTable" "own_spots"
  f_TermTable_own_told : FldT K mg "TermTable" "own_told"
/-! _law_folded -/
abbrev s_law_folded : Stmt := top 57
abbrev n_law_folded : List Str := ["_law_script", "_law_found", "_law_n", "_law_cell"]
abbrev p_law_folded : List Str := ["_law_script"]
theorem sc_law_folded : FnScope n_law_folded p_law_folded (defScope s_law_folded) := ⟨rfl, rfl, rfl, by decide +kernel, rfl, by decide +kernel, by decide +kernel⟩
def g_law_folded : Gx := (gSeq (gSet 1 (fLc [2] (fRange1 (fCons (fC (.int 64)) fNil)) (tnName 2) fYes (f2 dAdd (fC (.int 17)) (fVar 2))))
    (gSeq (gFor (fEnum (fSlot 0)) (tfOf (tnTup 2 (tnCons (tnName 2) (tnCons (tnName 3) tnNil))))
    (gAs (f2 dMod (fCall dInt (fCons (f2 dAdd (f2 dMul (f2S dIx (fVar 1) (f2 dMod (fCall dInt (fCons (fVar 2) fNil)) (fC (.int 64)))) (fC (.int 48271))) (fVar 3)) fNil)) (fC (.int 2147483647))) (tfSub 1 (f2 dMod (fCall dInt (fCons (fVar 2) fNil)) (fC (.int 64))))))
    (gSeq (gFor (fRange2 (fCons (fC (.int 1)) (fCons (fC (.int 64)) fNil))) (tfOf (tnName 2))
    (gAs (f2 dMod (fCall dInt (fCons (f2 dAdd (f2S dIx (fVar 1) (fVar 2)) (f2 dMul (f2S dIx (fVar 1) (f2 dSub (fVar 2) (fC (.int 1)))) (fC (.int 16807)))) fNil)) (fC (.int 2147483647))) (tfSub 1 (fVar 2))))
    (gRetV 1))))
def F_law_folded : List D → Sto → Res := def0 p_law_folded.length n_law_folded.length g_law_folded
theorem ok_law_folded {P : Program} {w : World} {K : PySem.W.Frag} {mg : Str → Option Value} {base : Heap} {f : Addr} {fd : FuncData} (T : Txt K mg) (F : Fun K "_law_folded" "_law_folded" s_law_folded f fd) (hm : mg "_law_folded" = some (.ref f)) (B : Binds K fd p_law_folded [])  : HeldG P w K mg base 1 "_law_folded" F_law_folded :=
  held_mk F sc_law_folded hm B fun cdv A outer s H E c cc hr gd => by
    have hu := units_of hr
    have hu1 : (A.deeper (envOfC "_law_folded" (defScope s_law_folded) s.heap.objs.size f cdv)).units + 1 < cLine := by omega
    exact (qsCons (qSetLc (i := 1) cc rfl sc_law_folded.nd rfl rfl (sw_true rfl rfl rfl rfl) (own := [("_law_n", 2)]) (g := (gName 2)) (blkOk_by (show blkC n_law_folded (defScope s_law_folded) _ [("_law_n", 2)] = true from by decide +kernel)) (qiRange1 (qCons (toT qInt) qNil) T.z_range) (fun _ _ _ _ _ => (qtName (i := 2) (vs := [2]) sc_law_folded.nd (by decide))) (fun _ _ _ _ _ => qtsNil) (fun _ _ _ _ _ => (fToR (qAdd cc (toT qInt) (qv 2)))))
      (qsCons (qFor cc PassesOwn.never rfl (qiEnum cc.K (srcV 0) T.z_enumerate) (qtX (vs := [2, 3]) (qtTup rfl (qtCons (qtName (i := 2) (vs := [2, 3]) sc_law_folded.nd (by decide)) (qtCons (qtName (i := 3) (vs := [2, 3]) sc_law_folded.nd (by decide)) qtNil)))) (fun c cc =>
      (qsOne (qAs cc (fToR (qMod (toT (qInt1 cc T.z_int (qCons (toT (qAdd cc (toT (qMul cc (toT (qIx cc (qv 1) (toT (qMod (toT (qInt1 cc T.z_int (qCons (qv 2) qNil))) (toT qInt))))) (toT qInt))) (qv 3))) qNil))) (toT qInt))) (qxSub (i := 1) hu1 (fun c cc => (toT (qMod (toT (qInt1 cc T.z_int (qCons (qv 2) qNil))) (toT qInt)))))))))
      (qsCons (qFor cc PassesOwn.never rfl (qiRange2 (qCons (toT qInt) (qCons (toT qInt) qNil)) T.z_range) (qtX (vs := [2]) (qtName (i := 2) (vs := [2]) sc_law_folded.nd (by decide))) (fun c cc =>
      (qsOne (qAs cc (fToR (qMod (toT (qInt1 cc T.z_int (qCons (toT (qAdd cc (toT (qIx cc (qv 1) (qv 2))) (toT (qMul cc (toT (qIx cc (qv 1) (toT (qSub (qv 2) (toT qInt))))) (toT qInt))))) qNil))) (toT qInt))) (qxSub (i := 1) hu1 (fun c cc => (qv 2)))))))
      (qsOne (qRetV 1)))))
/-! _law_begun -/
abbrev s_law_begun : Stmt := top 59
abbrev n_law_begun : List Str := ["_law_script", "_law_m", "_law_cell"]
abbrev p_law_begun : List Str := ["_law_script"]
theorem sc_law_begun : FnScope n_law_begun p_law_begun (defScope s_law_begun) := ⟨rfl, rfl, rfl, by decide +kernel, rfl, by decide +kernel, by decide +kernel⟩
def g_law_begun : Gx := (gSeq (gSetR 1 (fDict [(.inr "cells", (fDef F_law_folded (fCons (fVar 0) fNil))), (.inr "great", (fLst fNil)), (.inr "spot", (fC (.int 0)))]))
    (gSeq (gAs (fToS (fLc [2] (fItems (fVar 0)) (tnName 2) fYes (fIf (f2 dGeI (fVar 2) (f2 dPow (fC (.int 10)) (fC (.int 18)))) (fVarR 2) (fC (.int 0))))) (tfSub 1 (fC (.str "great"))))
    (gRetV 1)))
def F_law_begun : List D → Sto → Res := def0 p_law_begun.length n_law_begun.length g_law_begun
theorem ok_law_begun {P : Program} {w : World} {K : PySem.W.Frag} {mg : Str → Option Value} {base : Heap} {f : Addr} {fd : FuncData} (T : Txt K mg) (F : Fun K "_law_begun" "_law_begun" s_law_begun f fd) (hm : mg "_law_begun" = some (.ref f)) (B : Binds K fd p_law_begun []) (H_law_folded : HeldG P w K mg base 1 "_law_folded" F_law_folded) : HeldG P w K mg base 2 "_law_begun" F_law_begun :=
  held_mk F sc_law_begun hm B fun cdv A outer s H E c cc hr gd => by
    have hu := units_of hr
    have hu1 : (A.deeper (envOfC "_law_begun" (defScope s_law_begun) s.heap.objs.size f cdv)).units + 1 < cLine := by omega
    exact (qsCons (qSetR (i := 1) sc_law_begun.nd (qDict (qpCons (kk := .inr "cells") pe_str (fToR (qCallH cc H_law_folded hr gd (qCons (qv 0) qNil))) (qpCons (kk := .inr "great") pe_str (fToR (qLst qNil)) (qpCons (kk := .inr "spot") pe_str qInt qpNil)))))
      (qsCons (qAs cc (qToS (qLcW cc rfl sc_law_begun.nd (own := [("_law_cell", 2)]) (g := (gName 2)) (blkOk_by (show blkC n_law_begun (defScope s_law_begun) _ [("_law_cell", 2)] = true from by decide +kernel)) (qiSeq cc.K (srcT (qv 0))) (fun _ _ _ _ _ => (qtName (i := 2) (vs := [2]) sc_law_begun.nd (by decide))) (fun _ _ _ _ _ => qtsNil) (fun _ _ _ _ _ => (qIfE (qGeT (qv 2) (toT (qPow (toT qInt) (toT qInt)))) (qvR 2) qInt)))) (qxSub (i := 1) hu1 (fun c cc => (toT qStr))))
      (qsOne (qRetV 1))))
/-! _law_mixed -/
abbrev s_law_mixed : Stmt := top 56
abbrev n_law_mixed : List Str := ["_law_cell", "_law_n", "_law_blend"]
abbrev p_law_mixed : List Str := ["_law_cell", "_law_n"]
theorem sc_law_mixed : FnScope n_law_mixed p_law_mixed (defScope s_law_mixed) := ⟨rfl, rfl, rfl, by decide +kernel, rfl, by decide +kernel, by decide +kernel⟩
def g_law_mixed : Gx := (gSeq (gSet 2 (f2 dAdd (f2 dAdd (f2 dMod (fCall dInt (fCons (f2 dMul (f2 dMul (fVar 0) (f2 dAdd (fC (.int 1)) (f2 dMul (fC (.int 2)) (fVar 1)))) (fC (.int 48271))) fNil)) (fC (.int 2147483647))) (f2 dMul (f2 dMul (fC (.int 7919)) (fVar 1)) (fVar 1))) (f2 dMul (fC (.int 104729)) (fVar 1))))
    (gRet (f2 dDiv (f2 dMod (fCall dInt (fCons (f2 dMul (fVar 2) (fC (.int 69621))) fNil)) (fC (.int 2147483629))) (fC (.int 7)))))
def F_law_mixed : List D → Sto → Res := def0 p_law_mixed.length n_law_mixed.length g_law_mixed
theorem ok_law_mixed {P : Program} {w : World} {K : PySem.W.Frag} {mg : Str → Option Value} {base : Heap} {f : Addr} {fd : FuncData} (T : Txt K mg) (F : Fun K "_law_mixed" "_law_mixed" s_law_mixed f fd) (hm : mg "_law_mixed" = some (.ref f)) (B : Binds K fd p_law_mixed [])  : HeldG P w K mg base 1 "_law_mixed" F_law_mixed :=
  held_mk F sc_law_mixed hm B fun cdv A outer s H E c cc hr gd => by
    have hu := units_of hr
    have hu1 : (A.deeper (envOfC "_law_mixed" (defScope s_law_mixed) s.heap.objs.size f cdv)).units + 1 < cLine := by omega
    exact (qsCons (qSet (i := 2) sc_law_mixed.nd (qAdd cc (toT (qAdd cc (toT (qMod (toT (qInt1 cc T.z_int (qCons (toT (qMul cc (toT (qMul cc (qv 0) (toT (qAdd cc (toT qInt) (toT (qMul cc (toT qInt) (qv 1))))))) (toT qInt))) qNil))) (toT qInt))) (toT (qMul cc (toT (qMul cc (toT qInt) (qv 1))) (qv 1))))) (toT (qMul cc (toT qInt) (qv 1)))))
      (qsOne (qRet (qDiv (toT (qMod (toT (qInt1 cc T.z_int (qCons (toT (qMul cc (qv 2) (toT qInt))) qNil))) (toT qInt))) (toT qInt)))))
/-! _law_draw -/
abbrev s_law_draw : Stmt := top 58
abbrev n_law_draw : List Str := ["_law_m", "_law_limit", "_law_n", "_law_lot", "_law_here", "_law_cell"]
abbrev p_law_draw : List Str := ["_law_m", "_law_limit"]
theorem sc_law_draw : FnScope n_law_draw p_law_draw (defScope s_law_draw) := ⟨rfl, rfl, rfl, by decide +kernel, rfl, by decide +kernel, by decide +kernel⟩
def g_law_draw : Gx := (gSeq (gSetR 2 (f2S dGetK (fVar 0) (fC (.str "spot"))))
    (gSeq (gAs (f2 dAdd (fVar 2) (fC (.int 1))) (tfSub 0 (fC (.str "spot"))))
    (gSeq (gIf (f2S dNeS (f2S dGetK (fVar 0) (fC (.str "great"))) (fLst fNil))
    (gSeq (gSetR 3 (f2S dGetK (fVar 0) (fC (.str "great"))))
    (gSeq (gSet 4 (f2 dMod (fCall dInt (fCons (fVar 2) fNil)) (fCall dLen (fCons (fVar 3) fNil))))
    (gSeq (gSetR 5 (f2S dIx (fVar 3) (fVar 4)))
    (gIf (f2 dGtI (fVar 5) (fC (.int 0)))
    (gSeq (gAs (f2 dDiv (fVar 5) (fVar 1)) (tfSub 3 (fVar 4)))
    (gRet (f2 dMod (fCall dInt (fCons (fVar 5) fNil)) (fVar 1))))
    gNext))))
    gNext)
    (gSeq (gSetR 3 (f2S dGetK (fVar 0) (fC (.str "cells"))))
    (gRet (f2 dMod (fCall dInt (fCons (fDef F_law_mixed (fCons (fDef F_law_mixed (fCons (f2 dAdd (f2S dIx (fVar 3) (f2 dMod (fCall dInt (fCons (fVar 2) fNil)) (fC (.int 64)))) (f2 dMul (fC (.int 31)) (f2 dDiv (fVar 2) (fC (.int 64))))) (fCons (fVar 2) fNil))) (fCons (f2 dAdd (fVar 2) (fC (.int 7))) fNil))) fNil)) (fVar 1)))))))
def F_law_draw : List D → Sto → Res := def0 p_law_draw.length n_law_draw.length g_law_draw
theorem ok_law_draw {P : Program} {w : World} {K : PySem.W.Frag} {mg : Str → Option Value} {base : Heap} {f : Addr} {fd : FuncData} (T : Txt K mg) (F : Fun K "_law_draw" "_law_draw" s_law_draw f fd) (hm : mg "_law_draw" = some (.ref f)) (B : Binds K fd p_law_draw []) (H_law_mixed : HeldG P w K mg base 1 "_law_mixed" F_law_mixed) : HeldG P w K mg base 2 "_law_draw" F_law_draw :=
  held_mk F sc_law_draw hm B fun cdv A outer s H E c cc hr gd => by
    have hu := units_of hr
    have hu1 : (A.deeper (envOfC "_law_draw" (defScope s_law_draw) s.heap.objs.size f cdv)).units + 1 < cLine := by omega
    exact (qsCons (qSetR (i := 2) sc_law_draw.nd (qDget hu1 (qv 0) (toT qStr)))
      (qsCons (qAs cc (fToR (qAdd cc (qv 2) (toT qInt))) (qxSub (i := 0) hu1 (fun c cc => (toT qStr))))
      (qsCons (qIf (qNeT cc hu (toT (qDget hu1 (qv 0) (toT qStr))) (toT (qLst qNil)))
      (qsCons (qSetR (i := 3) sc_law_draw.nd (qDget hu1 (qv 0) (toT qStr)))
      (qsCons (qSet (i := 4) sc_law_draw.nd (qMod (toT (qInt1 cc T.z_int (qCons (qv 2) qNil))) (toT (qLen cc T.z_len (qCons (qv 3) qNil)))))
      (qsCons (qSetR (i := 5) sc_law_draw.nd (qIx cc (qv 3) (qv 4)))
      (qsOne (qIf (qGtT (qv 5) (toT qInt))
      (qsCons (qAs cc (fToR (qDiv (qv 5) (qv 1))) (qxSub (i := 3) hu1 (fun c cc => (qv 4))))
      (qsOne (qRet (qMod (toT (qInt1 cc T.z_int (qCons (qv 5) qNil))) (qv 1)))))
      qsNil)))))
      qsNil)
      (qsCons (qSetR (i := 3) sc_law_draw.nd (qDget hu1 (qv 0) (toT qStr)))
      (qsOne (qRet (qMod (toT (qInt1 cc T.z_int (qCons (toT (qCallH cc H_law_mixed hr gd (qCons (toT (qCallH cc H_law_mixed hr gd (qCons (toT (qAdd cc (toT (qIx cc (qv 3) (toT (qMod (toT (qInt1 cc T.z_int (qCons (qv 2) qNil))) (toT qInt))))) (toT (qMul cc (toT qInt) (toT (qDiv (qv 2) (toT qInt))))))) (qCons (qv 2) qNil)))) (qCons (toT (qAdd cc (qv 2) (toT qInt))) qNil)))) qNil))) (qv 1))))))))
/-! _law_of -/
abbrev s_law_of : Stmt := top 60
abbrev n_law_of : List Str := ["_law_m", "_law_some"]
abbrev p_law_of : List Str := ["_law_m", "_law_some"]
theorem sc_law_of : FnScope n_law_of p_law_of (defScope s_law_of) := ⟨rfl, rfl, rfl, by decide +kernel, rfl, by decide +kernel, by decide +kernel⟩
def g_law_of : Gx := (gRet (fNl (f2S dIx (fVar 1) (fDef F_law_draw (fCons (fVar 0) (fCons (fCall dLen (fCons (fVar 1) fNil)) fNil))))))
def F_law_of : List D → Sto → Res := def0 p_law_of.length n_law_of.length g_law_of
theorem ok_law_of {P : Program} {w : World} {K : PySem.W.Frag} {mg : Str → Option Value} {base : Heap} {f : Addr} {fd : FuncData} (T : Txt K mg) (F : Fun K "_law_of" "_law_of" s_law_of f fd) (hm : mg "_law_of" = some (.ref f)) (B : Binds K fd p_law_of []) (H_law_draw : HeldG P w K mg base 2 "_law_draw" F_law_draw) : HeldG P w K mg base 3 "_law_of" F_law_of :=
  held_mk F sc_law_of hm B fun cdv A outer s H E c cc hr gd => by
    have hu := units_of hr
    have hu1 : (A.deeper (envOfC "_law_of" (defScope s_law_of) s.heap.objs.size f cdv)).units + 1 < cLine := by omega
    exact (qsOne (qRet (rToF (toT (qIx cc (qv 1) (toT (qCallH cc H_law_draw hr gd (qCons (qv 0) (qCons (toT (qLen cc T.z_len (qCons (qv 1) qNil))) qNil)))))))))
/-! _law_row -/
abbrev s_law_row : Stmt := top 62
abbrev n_law_row : List Str := ["_law_m", "_law_cords_so", "_law_most", "_law_found", "_law_turn", "_law_side", "_law_place"]
abbrev p_law_row : List Str := ["_law_m", "_law_cords_so", "_law_most"]
theorem sc_law_row : FnScope n_law_row p_law_row (defScope s_law_row) := ⟨rfl, rfl, rfl, by decide +kernel, rfl, by decide +kernel, by decide +kernel⟩
def g_law_row : Gx := (gSeq (gSet 3 (fLst fNil))
    (gSeq (gFor (fRange1 (fCons (fDef F_law_draw (fCons (fVar 0) (fCons (f2 dAdd (fVar 2) (fC (.int 1))) fNil))) fNil)) (tfOf (tnName 4))
    (gSeq (gPar 5 6 (fDef F_law_of (fCons (fVar 0) (fCons (fLst (fCons (fC (.str "left")) (fCons (fC (.str "right")) fNil))) fNil))) (fDef F_law_draw (fCons (fVar 0) (fCons (f2 dSub (fVar 1) (fC (.int 1))) fNil))))
    (gSeq (gIf (fAnd (f2S dNeS (fVar 3) (fLst fNil)) (f2S dEqS (fDef F_law_draw (fCons (fVar 0) (fCons (fC (.int 5)) fNil))) (fC (.int 0))))
    (gParK true false 5 6 (fIf (f2S dEqS (f2S dIx (f2S dIx (fVar 3) (f1 dNeg (fC (.int 1)))) (fC (.int 0))) (fC (.str "right"))) (fC (.str "left")) (fC (.str "right"))) (f2S dIx (f2S dIx (fVar 3) (f1 dNeg (fC (.int 1)))) (fC (.int 1))))
    gNext)
    (gApp 3 (fTup true (fCons (fVarR 5) (fCons (fVarR 6) fNil)))))))
    (gRet (fCall dTup (fCons (fVar 3) fNil)))))
def F_law_row : List D → Sto → Res := def0 p_law_row.length n_law_row.length g_law_row
theorem ok_law_row {P : Program} {w : World} {K : PySem.W.Frag} {mg : Str → Option Value} {base : Heap} {f : Addr} {fd : FuncData} (T : Txt K mg) (F : Fun K "_law_row" "_law_row" s_law_row f fd) (hm : mg "_law_row" = some (.ref f)) (B : Binds K fd p_law_row []) (H_law_draw : HeldG P w K mg base 2 "_law_draw" F_law_draw) (H_law_of : HeldG P w K mg base 3 "_law_of" F_law_of) : HeldG P w K mg base 4 "_law_row" F_law_row :=
  held_mk F sc_law_row hm B fun cdv A outer s H E c cc hr gd => by
    have hu := units_of hr
    have hu1 : (A.deeper (envOfC "_law_row" (defScope s_law_row) s.heap.objs.size f cdv)).units + 1 < cLine := by omega
    exact (qsCons (qSet (i := 3) sc_law_row.nd (qLst qNil))
      (qsCons (qFor cc PassesOwn.never rfl (qiRange1 (qCons (toT (qCallH cc H_law_draw hr gd (qCons (qv 0) (qCons (toT (qAdd cc (qv 2) (toT qInt))) qNil)))) qNil) T.z_range) (qtX (vs := [4]) (qtName (i := 4) (vs := [4]) sc_law_row.nd (by decide))) (fun c cc =>
      (qsCons (qPar rfl sc_law_row.nd (qCallH cc H_law_of hr gd (qCons (qv 0) (qCons (toT (qLst (qCons qStr (qCons qStr qNil)))) qNil))) (qCallH cc H_law_draw hr gd (qCons (qv 0) (qCons (toT (qSub (qv 1) (toT qInt))) qNil))) (i := 5) (j := 6))
      (qsCons (qIf ((qtAnd (qNeT cc hu (qv 3) (toT (qLst qNil))) (pw_and1 (qEqT cc hu (toT (qCallH cc H_law_draw hr gd (qCons (qv 0) (qCons (toT qInt) qNil)))) (toT qInt))))).pt
      (qsOne (qParK true false rfl sc_law_row.nd (qIfE (qEqT cc hu (toT (qIx cc (toT (qIx cc (qv 3) (toT (qNeg (toT qInt))))) (toT qInt))) (toT qStr)) (cToF qStr) (cToF qStr)) (qIx cc (toT (qIx cc (qv 3) (toT (qNeg (toT qInt))))) (toT qInt)) (i := 5) (j := 6)))
      qsNil)
      (qsOne (qApp (i := 3) (fToR (qTup (qCons (qvR 5) (qCons (qvR 6) qNil))))))))))
      (qsOne (qRet (qTuple cc T.z_tuple (qCons (qv 3) qNil))))))
/-! _law_back -/
abbrev s_law_back : Stmt := top 63
abbrev n_law_back : List Str := ["_law_row_so", "_law_place", "_law_side"]
abbrev p_law_back : List Str := ["_law_row_so"]
theorem sc_law_back : FnScope n_law_back p_law_back (defScope s_law_back) := ⟨rfl, rfl, rfl, by decide +kernel, rfl, by decide +kernel, by decide +kernel⟩
def g_law_back : Gx := (gRet (fCall dTup (fCons (fLc [2, 1] (fItems (f1S dRev (fVar 0))) (tnTup 2 (tnCons (tnName 2) (tnCons (tnName 1) tnNil))) fYes (fTup true (fCons (fIf (f2S dEqS (fVar 2) (fC (.str "right"))) (fC (.str "left")) (fC (.str "right"))) (fCons (fVarR 1) fNil)))) fNil)))
def F_law_back : List D → Sto → Res := def0 p_law_back.length n_law_back.length g_law_back
theorem ok_law_back {P : Program} {w : World} {K : PySem.W.Frag} {mg : Str → Option Value} {base : Heap} {f : Addr} {fd : FuncData} (T : Txt K mg) (F : Fun K "_law_back" "_law_back" s_law_back f fd) (hm : mg "_law_back" = some (.ref f)) (B : Binds K fd p_law_back [])  : HeldG P w K mg base 1 "_law_back" F_law_back :=
  held_mk F sc_law_back hm B fun cdv A outer s H E c cc hr gd => by
    have hu := units_of hr
    have hu1 : (A.deeper (envOfC "_law_back" (defScope s_law_back) s.heap.objs.size f cdv)).units + 1 < cLine := by omega
    exact (qsOne (qRet (qTuple cc T.z_tuple (qCons (toT (qLcW cc rfl sc_law_back.nd (own := [("_law_side", 2), ("_law_place", 1)]) (g := (gTup K 2 (gCons (gName 2) (gCons (gName 1) gNil)))) (blkOk_by (show blkC n_law_back (defScope s_law_back) _ [("_law_side", 2), ("_law_place", 1)] = true from by decide +kernel)) (qiSeq cc.K (srcT (toT (qRev cc (qv 0))))) (fun _ _ _ _ _ => (qtTup rfl (qtCons (qtName (i := 2) (vs := [2, 1]) sc_law_back.nd (by decide)) (qtCons (qtName (i := 1) (vs := [2, 1]) sc_law_back.nd (by decide)) qtNil)))) (fun _ _ _ _ _ => qtsNil) (fun _ _ _ _ _ => (fToR (qTup (qCons (qIfE (qEqT cc hu (qv 2) (toT qStr)) qStr qStr) (qCons (qvR 1) qNil))))))) qNil))))
/-! _law_near -/
abbrev s_law_near : Stmt := top 72
abbrev n_law_near : List Str := ["_law_m", "_law_cords_so", "_law_row_so", "_law_way", "_law_at", "_law_side", "_law_far_side", "_law_place", "_law_near_here", "_law_far", "_law_three"]
abbrev p_law_near : List Str := ["_law_m", "_law_cords_so", "_law_row_so"]
theorem sc_law_near : FnScope n_law_near p_law_near (defScope s_law_near) := ⟨rfl, rfl, rfl, by decide +kernel, rfl, by decide +kernel, by decide +kernel⟩
def g_law_near : Gx := (gSeq (gPar 3 4 (fDef F_law_draw (fCons (fVar 0) (fCons (fC (.int 6)) fNil))) (fDef F_law_draw (fCons (fVar 0) (fCons (f2 dAdd (fCall dLen (fCons (fVar 2) fNil)) (fC (.int 1))) fNil))))
    (gSeq (gSet 5 (fDef F_law_of (fCons (fVar 0) (fCons (fLst (fCons (fC (.str "left")) (fCons (fC (.str "right")) fNil))) fNil))))
    (gSeq (gSet 6 (fIf (f2S dEqS (fVar 5) (fC (.str "left"))) (fC (.str "right")) (fC (.str "left"))))
    (gSeq (gIf (f2S dEqS (fVar 3) (fC (.int 0)))
    (gSeq (gSet 7 (fDef F_law_draw (fCons (fVar 0) (fCons (f2 dSub (fVar 1) (fC (.int 1))) fNil))))
    (gRet (f2 dAdd (f2 dAdd (fSl (fVar 2) fNo (fI (fVar 4))) (fTup true (fCons (fTup true (fCons (fVarR 5) (fCons (fVarR 7) fNil))) (fCons (fTup true (fCons (fVarR 6) (fCons (fVarR 7) fNil))) fNil)))) (fSl (fVar 2) (fI (fVar 4)) fNo))))
    gNext)
    (gSeq (gIf (fAnd (f2S dEqS (fVar 3) (fC (.int 1))) (f2 dGtI (fVar 1) (fC (.int 2))))
    (gSeq (gSet 7 (fDef F_law_draw (fCons (fVar 0) (fCons (f2 dSub (fVar 1) (fC (.int 2))) fNil))))
    (gSeq (gPar 8 9 (fTup true (fCons (fVarR 5) (fCons (fVarR 7) fNil))) (fTup true (fCons (fVarR 5) (fCons (f2 dAdd (fVar 7) (fC (.int 1))) fNil))))
    (gSeq (gSet 10 (f2 dAdd (fTup true (fCons (fVarR 8) (fCons (fVarR 9) (fCons (fVarR 8) fNil)))) (fDef F_law_back (fCons (fTup true (fCons (fVarR 9) (fCons (fVarR 8) (fCons (fVarR 9) fNil)))) fNil))))
    (gRet (f2 dAdd (f2 dAdd (fSl (fVar 2) fNo (fI (fVar 4))) (fVar 10)) (fSl (fVar 2) (fI (fVar 4)) fNo))))))
    gNext)
    (gSeq (gIf (fAnd (f2S dEqS (fVar 3) (fC (.int 2))) (f2S dNeS (fVar 2) (fTup true fNil)))
    (gSeq (gSet 4 (f2 dMod (fCall dInt (fCons (fVar 4) fNil)) (fCall dLen (fCons (fVar 2) fNil))))
    (gSeq (gSet 5 (fIf (f2S dEqS (f2S dIx (f2S dIx (fVar 2) (fVar 4)) (fC (.int 0))) (fC (.str "left"))) (fC (.str "right")) (fC (.str "left"))))
    (gRet (f2 dAdd (f2 dAdd (fSl (fVar 2) fNo (fI (fVar 4))) (fTup true (fCons (fTup true (fCons (fVarR 5) (fCons (f2S dIx (f2S dIx (fVar 2) (fVar 4)) (fC (.int 1))) fNil))) fNil))) (fSl (fVar 2) (fI (f2 dAdd (fVar 4) (fC (.int 1)))) fNo)))))
    gNext)
    (gSeq (gIf (fAnd (f2S dEqS (fVar 3) (fC (.int 3))) (f2 dGtI (fCall dLen (fCons (fVar 2) fNil)) (fC (.int 1))))
    (gSeq (gSet 4 (f2 dMod (fCall dInt (fCons (fVar 4) fNil)) (f2 dSub (fCall dLen (fCons (fVar 2) fNil)) (fC (.int 1)))))
    (gRet (f2 dAdd (f2 dAdd (fSl (fVar 2) fNo (fI (fVar 4))) (fTup true (fCons (f2S dIx (fVar 2) (f2 dAdd (fVar 4) (fC (.int 1)))) (fCons (f2S dIx (fVar 2) (fVar 4)) fNil)))) (fSl (fVar 2) (fI (f2 dAdd (fVar 4) (fC (.int 2)))) fNo))))
    gNext)
    (gRet (fIf (f2S dEqS (fVar 3) (fC (.int 4))) (fNl (fVar 2)) (fDef F_law_row (fCons (fVar 0) (fCons (fVar 1) (fCons (fC (.int 6)) fNil)))))))))))))
def F_law_near : List D → Sto → Res := def0 p_law_near.length n_law_near.length g_law_near
theorem ok_law_near {P : Program} {w : World} {K : PySem.W.Frag} {mg : Str → Option Value} {base : Heap} {f : Addr} {fd : FuncData} (T : Txt K mg) (F : Fun K "_law_near" "_law_near" s_law_near f fd) (hm : mg "_law_near" = some (.ref f)) (B : Binds K fd p_law_near []) (H_law_draw : HeldG P w K mg base 2 "_law_draw" F_law_draw) (H_law_of : HeldG P w K mg base 3 "_law_of" F_law_of) (H_law_row : HeldG P w K mg base 4 "_law_row" F_law_row) (H_law_back : HeldG P w K mg base 1 "_law_back" F_law_back) : HeldG P w K mg base 5 "_law_near" F_law_near :=
  held_mk F sc_law_near hm B fun cdv A outer s H E c cc hr gd => by
    have hu := units_of hr
    have hu1 : (A.deeper (envOfC "_law_near" (defScope s_law_near) s.heap.objs.size f cdv)).units + 1 < cLine := by omega
    exact (qsCons (qPar rfl sc_law_near.nd (qCallH cc H_law_draw hr gd (qCons (qv 0) (qCons (toT qInt) qNil))) (qCallH cc H_law_draw hr gd (qCons (qv 0) (qCons (toT (qAdd cc (toT (qLen cc T.z_len (qCons (qv 2) qNil))) (toT qInt))) qNil))) (i := 3) (j := 4))
      (qsCons (qSet (i := 5) sc_law_near.nd (qCallH cc H_law_of hr gd (qCons (qv 0) (qCons (toT (qLst (qCons qStr (qCons qStr qNil)))) qNil))))
      (qsCons (qSet (i := 6) sc_law_near.nd (qIfE (qEqT cc hu (qv 5) (toT qStr)) (cToF qStr) (cToF qStr)))
      (qsCons (qIf (qEqT cc hu (qv 3) (toT qInt))
      (qsCons (qSet (i := 7) sc_law_near.nd (qCallH cc H_law_draw hr gd (qCons (qv 0) (qCons (toT (qSub (qv 1) (toT qInt))) qNil))))
      (qsOne (qRet (qAdd cc (toT (qAdd cc (toT (qSl cc (qv 2) qPoN (qPoS (qv 4)))) (toT (qTup (qCons (fToR (qTup (qCons (qvR 5) (qCons (qvR 7) qNil)))) (qCons (fToR (qTup (qCons (qvR 6) (qCons (qvR 7) qNil)))) qNil)))))) (toT (qSl cc (qv 2) (qPoS (qv 4)) qPoN))))))
      qsNil)
      (qsCons (qIf ((qtAnd (qEqT cc hu (qv 3) (toT qInt)) (pw_and1 (qGtT (qv 1) (toT qInt))))).pt
      (qsCons (qSet (i := 7) sc_law_near.nd (qCallH cc H_law_draw hr gd (qCons (qv 0) (qCons (toT (qSub (qv 1) (toT qInt))) qNil))))
      (qsCons (qPar rfl sc_law_near.nd (qTup (qCons (qvR 5) (qCons (qvR 7) qNil))) (qTup (qCons (qvR 5) (qCons (fToR (qAdd cc (qv 7) (toT qInt))) qNil))) (i := 8) (j := 9))
      (qsCons (qSet (i := 10) sc_law_near.nd (qAdd cc (toT (qTup (qCons (qvR 8) (qCons (qvR 9) (qCons (qvR 8) qNil))))) (toT (qCallH cc H_law_back hr gd (qCons (toT (qTup (qCons (qvR 9) (qCons (qvR 8) (qCons (qvR 9) qNil))))) qNil)))))
      (qsOne (qRet (qAdd cc (toT (qAdd cc (toT (qSl cc (qv 2) qPoN (qPoS (qv 4)))) (qv 10))) (toT (qSl cc (qv 2) (qPoS (qv 4)) qPoN))))))))
      qsNil)
      (qsCons (qIf ((qtAnd (qEqT cc hu (qv 3) (toT qInt)) (pw_and1 (qNeT cc hu (qv 2) (toT (qTup qNil)))))).pt
      (qsCons (qSet (i := 4) sc_law_near.nd (qMod (toT (qInt1 cc T.z_int (qCons (qv 4) qNil))) (toT (qLen cc T.z_len (qCons (qv 2) qNil)))))
      (qsCons (qSet (i := 5) sc_law_near.nd (qIfE (qEqT cc hu (toT (qIx cc (toT (qIx cc (qv 2) (qv 4))) (toT qInt))) (toT qStr)) (cToF qStr) (cToF qStr)))
      (qsOne (qRet (qAdd cc (toT (qAdd cc (toT (qSl cc (qv 2) qPoN (qPoS (qv 4)))) (toT (qTup (qCons (fToR (qTup (qCons (qvR 5) (qCons (qIx cc (toT (qIx cc (qv 2) (qv 4))) (toT qInt)) qNil)))) qNil))))) (toT (qSl cc (qv 2) (qPoS (toT (qAdd cc (qv 4) (toT qInt)))) qPoN)))))))
      qsNil)
      (qsCons (qIf ((qtAnd (qEqT cc hu (qv 3) (toT qInt)) (pw_and1 (qGtT (toT (qLen cc T.z_len (qCons (qv 2) qNil))) (toT qInt))))).pt
      (qsCons (qSet (i := 4) sc_law_near.nd (qMod (toT (qInt1 cc T.z_int (qCons (qv 4) qNil))) (toT (qSub (toT (qLen cc T.z_len (qCons (qv 2) qNil))) (toT qInt)))))
      (qsOne (qRet (qAdd cc (toT (qAdd cc (toT (qSl cc (qv 2) qPoN (qPoS (qv 4)))) (toT (qTup (qCons (qIx cc (qv 2) (toT (qAdd cc (qv 4) (toT qInt)))) (qCons (qIx cc (qv 2) (qv 4)) qNil)))))) (toT (qSl cc (qv 2) (qPoS (toT (qAdd cc (qv 4) (toT qInt)))) qPoN))))))
      qsNil)
      (qsOne (qRet (qIfE (qEqT cc hu (qv 3) (toT qInt)) (rToF (qv 2)) (qCallH cc H_law_row hr gd (qCons (qv 0) (qCons (qv 1) (qCons (toT qInt) qNil))))))))))))))
/-! _law_walk -/
abbrev s_law_walk : Stmt := top 64
abbrev n_law_walk : List Str := ["_law_cords_so", "_law_row_so", "_law_held", "_law_met_so", "_law_side", "_law_place", "_law_near_here", "_law_far"]
abbrev p_law_walk : List Str := ["_law_cords_so", "_law_row_so"]
theorem sc_law_walk : FnScope n_law_walk p_law_walk (defScope s_law_walk) := ⟨rfl, rfl, rfl, by decide +kernel, rfl, by decide +kernel, by decide +kernel⟩
def g_law_walk : Gx := (gSeq (gPar 2 3 (f1 dRgL1 (fVar 0)) (fLst fNil))
    (gSeq (gFor (fSlot 1) (tfOf (tnTup 2 (tnCons (tnName 4) (tnCons (tnName 5) tnNil))))
    (gSeq (gParK false false 6 7 (f2S dIx (fVar 2) (fVar 5)) (f2S dIx (fVar 2) (f2 dAdd (fVar 5) (fC (.int 1)))))
    (gSeq (gApp 3 (fIf (f2S dEqS (fVar 4) (fC (.str "left"))) (fTup true (fCons (fVarR 6) (fCons (fVarR 7) (fCons (fC (.int 1)) fNil)))) (fTup true (fCons (fVarR 7) (fCons (fVarR 6) (fCons (f1 dNeg (fC (.int 1))) fNil))))))
    (gAs (fTup true (fCons (fVarR 7) (fCons (fVarR 6) fNil))) (tfTup 2 (tfCons (tfSub 2 (fVar 5)) (tfCons (tfSub 2 (f2 dAdd (fVar 5) (fC (.int 1)))) tfNil)))))))
    (gFrz 3 (gRet (fTup true (fCons (fVarR 3) (fCons (fCall dTup (fCons (fVar 2) fNil)) fNil)))))))
def F_law_walk : List D → Sto → Res := def0 p_law_walk.length n_law_walk.length g_law_walk
theorem ok_law_walk {P : Program} {w : World} {K : PySem.W.Frag} {mg : Str → Option Value} {base : Heap} {f : Addr} {fd : FuncData} (T : Txt K mg) (F : Fun K "_law_walk" "_law_walk" s_law_walk f fd) (hm : mg "_law_walk" = some (.ref f)) (B : Binds K fd p_law_walk [])  : HeldG P w K mg base 1 "_law_walk" F_law_walk :=
  held_mk F sc_law_walk hm B fun cdv A outer s H E c cc hr gd => by
    have hu := units_of hr
    have hu1 : (A.deeper (envOfC "_law_walk" (defScope s_law_walk) s.heap.objs.size f cdv)).units + 1 < cLine := by omega
    exact (qsCons (qPar rfl sc_law_walk.nd (qListRg1 rfl T.z_list T.z_range (qv 0)) (qLst qNil) (i := 2) (j := 3))
      (qsCons (qFor cc PassesOwn.never rfl (qiSeq cc.K (srcV 1)) (qtX (vs := [4, 5]) (qtTup rfl (qtCons (qtName (i := 4) (vs := [4, 5]) sc_law_walk.nd (by decide)) (qtCons (qtName (i := 5) (vs := [4, 5]) sc_law_walk.nd (by decide)) qtNil)))) (fun c cc =>
      (qsCons (qParK false false rfl sc_law_walk.nd (qIx cc (qv 2) (qv 5)) (qIx cc (qv 2) (toT (qAdd cc (qv 5) (toT qInt)))) (i := 6) (j := 7))
      (qsCons (qApp (i := 3) (qIfE (qEqT cc hu (qv 4) (toT qStr)) (fToR (qTup (qCons (qvR 6) (qCons (qvR 7) (qCons qInt qNil))))) (fToR (qTup (qCons (qvR 7) (qCons (qvR 6) (qCons (fToR (qNeg (toT qInt))) qNil)))))))
      (qsOne (qAs cc (fToR (qTup (qCons (qvR 7) (qCons (qvR 6) qNil)))) (qxTup rfl (qxCons (qxSub (i := 2) hu1 (fun c cc => (qv 5))) (qxCons (qxSub (i := 2) hu1 (fun c cc => (toT (qAdd cc (qv 5) (toT qInt))))) qxNil)))))))))
      (qsOne (qFrz (i := 3) (qRet (qTup (qCons (qvR 3) (qCons (fToR (qTuple cc T.z_tuple (qCons (qv 2) qNil))) qNil))))))))
/-! _law_pairs -/
abbrev s_law_pairs : Stmt := top 73
abbrev n_law_pairs : List Str := ["_law_cords_so", "_law_row_so", "_law_found", "_law_near_here", "_law_far", "_law_over", "_law_under", "_law_sign", "_law_pair"]
abbrev p_law_pairs : List Str := ["_law_cords_so", "_law_row_so"]
theorem sc_law_pairs : FnScope n_law_pairs p_law_pairs (defScope s_law_pairs) := ⟨rfl, rfl, rfl, by decide +kernel, rfl, by decide +kernel, by decide +kernel⟩
def g_law_pairs : Gx := (gSeq (gSetR 2 fDNewT)
    (gSeq (gFor (fRange1 (fCons (fVar 0) fNil)) (tfOf (tnName 3))
    (gFor (fRange2 (fCons (f2 dAdd (fVar 3) (fC (.int 1))) (fCons (fVar 0) fNil))) (tfOf (tnName 4))
    (gAs (fC (.int 0)) (tfKey (fVar 2) (fCons (fVarR 3) (fCons (fVarR 4) fNil))))))
    (gSeq (gFor (fItems (f2S dIx (fDef F_law_walk (fCons (fVar 0) (fCons (fVar 1) fNil))) (fC (.int 0)))) (tfOf (tnTup 3 (tnCons (tnName 5) (tnCons (tnName 6) (tnCons (tnName 7) tnNil)))))
    (gSeq (gSet 8 (fIf (f2 dLtI (fVar 5) (fVar 6)) (fTup true (fCons (fVarR 5) (fCons (fVarR 6) fNil))) (fTup true (fCons (fVarR 6) (fCons (fVarR 5) fNil)))))
    (gAs (f2 dAdd (f2S dGetT (fVar 2) (fVar 8)) (fVar 7)) (tfKeyV (fVar 2) (fVar 8)))))
    (gRetV 2))))
def F_law_pairs : List D → Sto → Res := def0 p_law_pairs.length n_law_pairs.length g_law_pairs
theorem ok_law_pairs {P : Program} {w : World} {K : PySem.W.Frag} {mg : Str → Option Value} {base : Heap} {f : Addr} {fd : FuncData} (T : Txt K mg) (F : Fun K "_law_pairs" "_law_pairs" s_law_pairs f fd) (hm : mg "_law_pairs" = some (.ref f)) (B : Binds K fd p_law_pairs []) (H_law_walk : HeldG P w K mg base 1 "_law_walk" F_law_walk) : HeldG P w K mg base 2 "_law_pairs" F_law_pairs :=
  held_mk F sc_law_pairs hm B fun cdv A outer s H E c cc hr gd => by
    have hu := units_of hr
    have hu1 : (A.deeper (envOfC "_law_pairs" (defScope s_law_pairs) s.heap.objs.size f cdv)).units + 1 < cLine := by omega
    exact (qsCons (qSetR (i := 2) sc_law_pairs.nd qDNewT)
      (qsCons (qFor cc PassesOwn.never rfl (qiRange1 (qCons (qv 0) qNil) T.z_range) (qtX (vs := [3]) (qtName (i := 3) (vs := [3]) sc_law_pairs.nd (by decide))) (fun c cc =>
      (qsOne (qFor cc PassesOwn.never rfl (qiRange2 (qCons (toT (qAdd cc (qv 3) (toT qInt))) (qCons (qv 0) qNil)) T.z_range) (qtX (vs := [4]) (qtName (i := 4) (vs := [4]) sc_law_pairs.nd (by decide))) (fun c cc =>
      (qsOne (qAs cc qInt (qxKey hu1 (fun c cc => (qv 2)) (fun c cc => (qCons (qvR 3) (qCons (qvR 4) qNil)))))))))))
      (qsCons (qFor cc PassesOwn.never rfl (qiSeq cc.K (srcR (qIx cc (toT (qCallH cc H_law_walk hr gd (qCons (qv 0) (qCons (qv 1) qNil)))) (toT qInt)))) (qtX (vs := [5, 6, 7]) (qtTup rfl (qtCons (qtName (i := 5) (vs := [5, 6, 7]) sc_law_pairs.nd (by decide)) (qtCons (qtName (i := 6) (vs := [5, 6, 7]) sc_law_pairs.nd (by decide)) (qtCons (qtName (i := 7) (vs := [5, 6, 7]) sc_law_pairs.nd (by decide)) qtNil))))) (fun c cc =>
      (qsCons (qSet (i := 8) sc_law_pairs.nd (qIfE (qLtT (qv 5) (qv 6)) (qTup (qCons (qvR 5) (qCons (qvR 6) qNil))) (qTup (qCons (qvR 6) (qCons (qvR 5) qNil)))))
      (qsOne (qAs cc (fToR (qAdd cc (toT (qGetT cc hu1 (qv 2) (qv 8))) (qv 7))) (qxKeyV hu1 (fun c cc => (qv 2)) (fun c cc => (qv 8))))))))
      (qsOne (qRetV 2)))))
/-! _law_like -/
abbrev s_law_like : Stmt := top 61
abbrev n_law_like : List Str := ["_law_got", "_law_due"]
abbrev p_law_like : List Str := ["_law_got", "_law_due"]
theorem sc_law_like : FnScope n_law_like p_law_like (defScope s_law_like) := ⟨rfl, rfl, rfl, by decide +kernel, rfl, by decide +kernel, by decide +kernel⟩
def g_law_like : Gx := (gRet (f2S dEqS (fCall dRepr (fCons (fVar 0) fNil)) (fCall dRepr (fCons (fVar 1) fNil))))
def F_law_like : List D → Sto → Res := def0 p_law_like.length n_law_like.length g_law_like
theorem ok_law_like {P : Program} {w : World} {K : PySem.W.Frag} {mg : Str → Option Value} {base : Heap} {f : Addr} {fd : FuncData} (T : Txt K mg) (F : Fun K "_law_like" "_law_like" s_law_like f fd) (hm : mg "_law_like" = some (.ref f)) (B : Binds K fd p_law_like [])  : HeldG P w K mg base 1 "_law_like" F_law_like :=
  held_mk F sc_law_like hm B fun cdv A outer s H E c cc hr gd => by
    have hu := units_of hr
    have hu1 : (A.deeper (envOfC "_law_like" (defScope s_law_like) s.heap.objs.size f cdv)).units + 1 < cLine := by omega
    exact (qsOne (qRet (qEq cc hu (toT (qRepr cc gd hu T.z_repr (qCons (qv 0) qNil))) (toT (qRepr cc gd hu T.z_repr (qCons (qv 1) qNil))))))
/-! first_bad -/
abbrev s_first_bad : Stmt := top 18
abbrev n_first_bad : List Str := ["things", "is_good", "number", "thing"]
abbrev p_first_bad : List Str := ["things", "is_good"]
theorem sc_first_bad : FnScope n_first_bad p_first_bad (defScope s_first_bad) := ⟨rfl, rfl, rfl, by decide +kernel, rfl, by decide +kernel, by decide +kernel⟩
def g_first_bad (fn : List D → Sto → Res) (lf : Addr) : Gx := (gSeq (gFor (fEnum (fSlot 0)) (tfOf (tnTup 2 (tnCons (tnName 2) (tnCons (tnName 3) tnNil))))
    (gIf (fNot (fAct 1 lf fn (fCons (fVar 3) fNil)))
    (gRetV 2)
    gNext))
    (gRet (fC .non)))
def fbGo (fn : List D → Sto → Res) : List D → Sto → Res
  | [], S => .ok .non S
  | d :: r, S => match d with
    | .tup _ [.int i, t] => (match fn [t] S with
      | .ok (.bl true) S' => fbGo fn r S'
      | .ok (.bl false) S' => .ok (.int i) S'
      | _ => .stuck)
    | _ => .stuck
def fbR (r : SRes) : Res := match r with
  | .ret d S => .ok d S
  | .nx _ S => .ok .non S
  | _ => .stuck
theorem fb_loop (fn : List D → Sto → Res) (f : Addr) (x : Sl) : ∀ (ds : List D) (n : Nat) (a b : Sl) (S : Sto),
    fbR (match forG (tfOf (tnTup 2 (tnCons (tnName 2) (tnCons (tnName 3) tnNil)))) (gIf (fNot (fAct 1 f fn (fCons (fVar 3) fNil))) (gRetV 2) gNext) (enD n ds) [x, .val (.adr f), a, b] S with
      | .nx ρ S => gRet (fC .non) ρ S
      | r => r) = fbGo fn (enD n ds) S
  | [], n, a, b, S => rfl
  | d :: ds, n, a, b, S => by
    unfold enD
    simp only [forG, tfOf, tnTup, tnCons, tnName, tnNil, List.length_cons, List.length_nil, if_true, Option.bind_some, List.set_cons_succ, List.set_cons_zero, fbGo, gIf, fNot, fAct, List.getElem?_cons_succ, List.getElem?_cons_zero, fCons, fVar, fNil, ARes.bind]
    cases z : fn [d] S with
    | stuck => rfl
    | err nn fs S' => rfl
    | ok e S' =>
      cases e with
      | bl t =>
        cases t with
        | true => simpa [Res.bind, thenG, gNext] using fb_loop fn f x ds (n + 1) _ _ S'
        | false => simp [Res.bind, thenG, gRetV, fbR, D.nl]
      | _ => rfl
def F_first_bad (fn : List D → Sto → Res) (d : D) (S : Sto) : Res := match d.items with
  | some ds => fbGo fn (enD 0 ds) S
  | none => .stuck
theorem hF_first_bad (fn : List D → Sto → Res) (f : Addr) (d : D) (S : Sto) : def0 2 n_first_bad.length (g_first_bad fn f) [d, .adr f] S = F_first_bad fn d S := by
  have go : ∀ ds x, fSlot 0 [x, .val (.adr f), .emp, .emp] S = .ok ds S → fbR (g_first_bad fn f [x, .val (.adr f), .emp, .emp] S) = fbGo fn (enD 0 ds) S := fun ds x hx => by
    rw [← fb_loop fn f x ds 0 .emp .emp S]
    unfold g_first_bad gSeq gFor fEnum
    rw [hx] <;> rfl
  have bad : ∀ x, fSlot 0 [x, .val (.adr f), .emp, .emp] S = .stuck → fbR (g_first_bad fn f [x, .val (.adr f), .emp, .emp] S) = .stuck := fun x hx => by
    unfold g_first_bad gSeq gFor fEnum
    rw [hx] <;> rfl
  have e0 : def0 2 n_first_bad.length (g_first_bad fn f) [d, .adr f] S = fbR (g_first_bad fn f [slOf d, .val (.adr f), .emp, .emp] S) := rfl
  rw [e0]
  unfold F_first_bad
  cases d with
  | tup z ds => exact go ds _ rfl
  | lst ds => exact go ds _ rfl
  | frz ds => exact go ds _ rfl
  | _ => exact bad _ rfl
theorem cb_first_bad {P : Program} {w : World} {K : PySem.W.Frag} {mg : Str → Option Value} {base : Heap} {g lf : Addr} {cdv : Value} {A : Around} {outer : List Env} {s : Shared} {H : Hp} {c : Fc} {fn : List D → Sto → Res} {k : Nat} (T : Txt K mg) (cc : Cc K mg c.wb c) (hr : Room k (A.deeper (envOfC "first_bad" (defScope s_first_bad) s.heap.objs.size g cdv))) (gd : A.guards = some []) (act : ActOk P w K mg base n_first_bad "first_bad" "is_good" s_first_bad g cdv A outer s H c.wb fn lf) :
    PSs (cxOf CX0 P w K mg base n_first_bad "first_bad" (defScope s_first_bad) g cdv A outer s H E0).nox (defBody s_first_bad) (TSx c (g_first_bad fn lf)) := by
  have hu := units_of hr
  exact (qsCons (qFor cc PassesOwn.never rfl (qiEnum cc.K (srcV 0) T.z_enumerate) (qtX (vs := [2, 3]) (qtTup rfl (qtCons (qtName (i := 2) (vs := [2, 3]) sc_first_bad.nd (by decide)) (qtCons (qtName (i := 3) (vs := [2, 3]) sc_first_bad.nd (by decide)) qtNil)))) (fun c cc =>
      (qsOne (qIf (qtNot (qtVal (toT (act _ cc _ _ _ _ (qCons (qv 3) qNil) rfl))))
      (qsOne (qRetV 2))
      qsNil))))
      (qsOne (qRet (cToF qNon))))
/-! is_tuple_of -/
abbrev s_is_tuple_of : Stmt := top 17
abbrev n_is_tuple_of : List Str := ["value", "many"]
abbrev p_is_tuple_of : List Str := ["value", "many"]
theorem sc_is_tuple_of : FnScope n_is_tuple_of p_is_tuple_of (defScope s_is_tuple_of) := ⟨rfl, rfl, rfl, by decide +kernel, rfl, by decide +kernel, by decide +kernel⟩
def g_is_tuple_of : Gx := (gRet (fAnd (f1S (dIsi "tuple") (fVar 0)) (f2S dEqS (fCall dLen (fCons (fVar 0) fNil)) (fVar 1))))
def F_is_tuple_of : List D → Sto → Res := def0 p_is_tuple_of.length n_is_tuple_of.length g_is_tuple_of
theorem ok_is_tuple_of {P : Program} {w : World} {K : PySem.W.Frag} {mg : Str → Option Value} {base : Heap} {f : Addr} {fd : FuncData} (T : Txt K mg) (F : Fun K "is_tuple_of" "is_tuple_of" s_is_tuple_of f fd) (hm : mg "is_tuple_of" = some (.ref f)) (B : Binds K fd p_is_tuple_of [])  : HeldG P w K mg base 1 "is_tuple_of" F_is_tuple_of :=
  held_mk F sc_is_tuple_of hm B fun cdv A outer s H E c cc hr gd => by
    have hu := units_of hr
    have hu1 : (A.deeper (envOfC "is_tuple_of" (defScope s_is_tuple_of) s.heap.objs.size f cdv)).units + 1 < cLine := by omega
    exact (qsOne (qRet (qAndV (toT (qIsi (Ts := "tuple") cc T.z_isinstance T.z_tuple (by decide) boot_tuple (by decide) (qv 0))) (pe_one (qEq cc hu (toT (qLen cc T.z_len (qCons (qv 0) qNil))) (qv 1))))))
/-! is_side -/
abbrev s_is_side : Stmt := top 19
abbrev n_is_side : List Str := ["value"]
abbrev p_is_side : List Str := ["value"]
theorem sc_is_side : FnScope n_is_side p_is_side (defScope s_is_side) := ⟨rfl, rfl, rfl, by decide +kernel, rfl, by decide +kernel, by decide +kernel⟩
def g_is_side : Gx := (gRet (fAnd (f1S (dIsi "str") (fVar 0)) (f2S dIn (fVar 0) (fC (.tup true [.str "left", .str "right"])))))
def F_is_side : List D → Sto → Res := def0 p_is_side.length n_is_side.length g_is_side
theorem ok_is_side {P : Program} {w : World} {K : PySem.W.Frag} {mg : Str → Option Value} {base : Heap} {f : Addr} {fd : FuncData} (T : Txt K mg) (F : Fun K "is_side" "is_side" s_is_side f fd) (hm : mg "is_side" = some (.ref f)) (B : Binds K fd p_is_side [])  : HeldG P w K mg base 1 "is_side" F_is_side :=
  held_mk F sc_is_side hm B fun cdv A outer s H E c cc hr gd => by
    have hu := units_of hr
    have hu1 : (A.deeper (envOfC "is_side" (defScope s_is_side) s.heap.objs.size f cdv)).units + 1 < cLine := by omega
    exact (qsOne (qRet (qAndV (toT (qIsi (Ts := "str") cc T.z_isinstance T.z_str (by decide) boot_str (by decide) (qv 0))) (pe_one (qIn cc hu (qv 0) (toT (qCst cc T.c_SIDES)))))))
/-! is_number -/
abbrev s_is_number : Stmt := top 15
abbrev n_is_number : List Str := ["value"]
abbrev p_is_number : List Str := ["value"]
theorem sc_is_number : FnScope n_is_number p_is_number (defScope s_is_number) := ⟨rfl, rfl, rfl, by decide +kernel, rfl, by decide +kernel, by decide +kernel⟩
def g_is_number : Gx := (gRet (fAnd (f1S (dIsi "int") (fVar 0)) (fNot (f1S (dIsi "bool") (fVar 0)))))
def F_is_number : List D → Sto → Res := def0 p_is_number.length n_is_number.length g_is_number
theorem ok_is_number {P : Program} {w : World} {K : PySem.W.Frag} {mg : Str → Option Value} {base : Heap} {f : Addr} {fd : FuncData} (T : Txt K mg) (F : Fun K "is_number" "is_number" s_is_number f fd) (hm : mg "is_number" = some (.ref f)) (B : Binds K fd p_is_number [])  : HeldG P w K mg base 1 "is_number" F_is_number :=
  held_mk F sc_is_number hm B fun cdv A outer s H E c cc hr gd => by
    have hu := units_of hr
    have hu1 : (A.deeper (envOfC "is_number" (defScope s_is_number) s.heap.objs.size f cdv)).units + 1 < cLine := by omega
    exact (qsOne (qRet (qAndV (toT (qIsi (Ts := "int") cc T.z_isinstance T.z_int (by decide) boot_int (by decide) (qv 0))) (pe_one (qNotV (toT (qIsi (Ts := "bool") cc T.z_isinstance T.z_bool (by decide) boot_bool (by decide) (qv 0))))))))
/-! is_within -/
abbrev s_is_within : Stmt := top 16
abbrev n_is_within : List Str := ["value", "least", "most"]
abbrev p_is_within : List Str := ["value", "least", "most"]
theorem sc_is_within : FnScope n_is_within p_is_within (defScope s_is_within) := ⟨rfl, rfl, rfl, by decide +kernel, rfl, by decide +kernel, by decide +kernel⟩
def g_is_within : Gx := (gRet (fAnd (fDef F_is_number (fCons (fVar 0) fNil)) (fChain dLeI dLeI (fVar 1) (fVar 0) (fVar 2))))
def F_is_within : List D → Sto → Res := def0 p_is_within.length n_is_within.length g_is_within
theorem ok_is_within {P : Program} {w : World} {K : PySem.W.Frag} {mg : Str → Option Value} {base : Heap} {f : Addr} {fd : FuncData} (T : Txt K mg) (F : Fun K "is_within" "is_within" s_is_within f fd) (hm : mg "is_within" = some (.ref f)) (B : Binds K fd p_is_within []) (H_is_number : HeldG P w K mg base 1 "is_number" F_is_number) : HeldG P w K mg base 2 "is_within" F_is_within :=
  held_mk F sc_is_within hm B fun cdv A outer s H E c cc hr gd => by
    have hu := units_of hr
    have hu1 : (A.deeper (envOfC "is_within" (defScope s_is_within) s.heap.objs.size f cdv)).units + 1 < cLine := by omega
    exact (qsOne (qRet (qAndV (toT (qCallH cc H_is_number hr gd (qCons (qv 0) qNil))) (pe_one (qLeLe (qv 1) (qv 0) (qv 2))))))
/-! is_crossing -/
abbrev s_is_crossing : Stmt := top 20
abbrev n_is_crossing : List Str := ["cords", "value"]
abbrev p_is_crossing : List Str := ["cords", "value"]
theorem sc_is_crossing : FnScope n_is_crossing p_is_crossing (defScope s_is_crossing) := ⟨rfl, rfl, rfl, by decide +kernel, rfl, by decide +kernel, by decide +kernel⟩
def g_is_crossing : Gx := (gRet (fAnd (fDef F_is_tuple_of (fCons (fVar 1) (fCons (fC (.int 2)) fNil))) (fAnd (fDef F_is_side (fCons (f2S dIx (fVar 1) (fC (.int 0))) fNil)) (fDef F_is_within (fCons (f2S dIx (fVar 1) (fC (.int 1))) (fCons (fC (.int 0)) (fCons (f2 dSub (fVar 0) (fC (.int 2))) fNil)))))))
def F_is_crossing : List D → Sto → Res := def0 p_is_crossing.length n_is_crossing.length g_is_crossing
theorem ok_is_crossing {P : Program} {w : World} {K : PySem.W.Frag} {mg : Str → Option Value} {base : Heap} {f : Addr} {fd : FuncData} (T : Txt K mg) (F : Fun K "is_crossing" "is_crossing" s_is_crossing f fd) (hm : mg "is_crossing" = some (.ref f)) (B : Binds K fd p_is_crossing []) (H_is_tuple_of : HeldG P w K mg base 1 "is_tuple_of" F_is_tuple_of) (H_is_side : HeldG P w K mg base 1 "is_side" F_is_side) (H_is_within : HeldG P w K mg base 2 "is_within" F_is_within) : HeldG P w K mg base 3 "is_crossing" F_is_crossing :=
  held_mk F sc_is_crossing hm B fun cdv A outer s H E c cc hr gd => by
    have hu := units_of hr
    have hu1 : (A.deeper (envOfC "is_crossing" (defScope s_is_crossing) s.heap.objs.size f cdv)).units + 1 < cLine := by omega
    exact (qsOne (qRet (qAndV (toT (qCallH cc H_is_tuple_of hr gd (qCons (qv 1) (qCons (toT qInt) qNil)))) (qAndV (toT (qCallH cc H_is_side hr gd (qCons (toT (qIx cc (qv 1) (toT qInt))) qNil))) (pe_one (qCallH cc H_is_within hr gd (qCons (toT (qIx cc (qv 1) (toT qInt))) (qCons (toT qInt) (qCons (toT (qSub (qv 0) (toT qInt))) qNil)))))))))
/-! need_row -/
abbrev s_need_row : Stmt := top 22
abbrev n_need_row : List Str := ["cords", "row", "number", "thing"]
abbrev p_need_row : List Str := ["cords", "row"]
theorem sc_need_row : FnScope n_need_row p_need_row (defScope s_need_row) := ⟨rfl, rfl, rfl, by decide +kernel, rfl, by decide +kernel, by decide +kernel⟩
def g_need_row : Gx := (gSeq (gIf (fOr (fNot (f1S (dIsi "tuple") (fVar 1))) (f2 dGtI (fCall dLen (fCons (fVar 1) fNil)) (fC (.int 60))))
    gNever
    gNext)
    (gSeq (gSet 2 (fLam "need_row" F_first_bad 3 (fVar 1) (fDef F_is_crossing (fCons (fVar 0) (fCons (fVar 3) fNil)))))
    (gSeq (gIf (f1 dNotN (fVar 2))
    gNever
    gNext)
    (gRetV 1))))
def F_need_row : List D → Sto → Res := def0 p_need_row.length n_need_row.length g_need_row
theorem ok_need_row {P : Program} {w : World} {K : PySem.W.Frag} {mg : Str → Option Value} {base : Heap} {f : Addr} {fd : FuncData} (T : Txt K mg) (F : Fun K "need_row" "need_row" s_need_row f fd) (hm : mg "need_row" = some (.ref f)) (B : Binds K fd p_need_row []) (O : OwnTb K mg base "need_row") {g_first_bad_ : Addr} {fd_first_bad : FuncData} (G_first_bad : Fun K "first_bad" "first_bad" s_first_bad g_first_bad_ fd_first_bad) (hm_first_bad : mg "first_bad" = some (.ref g_first_bad_)) (B_first_bad : Binds K fd_first_bad p_first_bad []) (H_is_crossing : HeldG P w K mg base 3 "is_crossing" F_is_crossing) : HeldG P w K mg base 6 "need_row" F_need_row :=
  held_mkC F sc_need_row hm B fun cdv A outer s H E c lk cc hr gd => by
    have hu := units_of hr
    have hu1 : (A.deeper (envOfC "need_row" (defScope s_need_row) s.heap.objs.size f cdv)).units + 1 < cLine := by omega
    exact (qsCons (qIf ((qtOr (qtNot (qtVal (toT (qIsi (Ts := "tuple") cc T.z_isinstance T.z_tuple (by decide) boot_tuple (by decide) (qv 1))))) (pw_or1 (qGtT (toT (qLen cc T.z_len (qCons (qv 1) qNil))) (toT (qCst cc T.c_MOST_CROSSINGS)))))).pt
      (qsOne qNever)
      qsNil)
      (qsCons (qSet (i := 2) sc_need_row.nd (qLam (me := "need_row") (a := "thing") (j := 3) (n := 3) (gfb := g_first_bad) (Fn := F_first_bad) cc (qv 1) sc_need_row.nd gd (hr.mono (by decide)) G_first_bad sc_first_bad hm_first_bad B_first_bad rfl (.inl rfl) (by decide) (by decide) hF_first_bad
      (fun cdv A outer s H c fn f cc hr gd act => cb_first_bad T cc hr gd act) (own_of O hm lk) rfl rfl (lamP_by (show lamPB (defScope s_need_row) _ "thing" = true from by decide +kernel)) rfl (fun _ _ _ _ => rfl)
      (fun A outer s1 H1 c f k cc hr gd => by have hu := units_of hr; exact (qCallH cc H_is_crossing hr gd (qCons (qv 0) (qCons (qv 3) qNil))))))
      (qsCons (qIf (qNotNT (qv 2))
      (qsOne qNever)
      qsNil)
      (qsOne (qRetV 1)))))
/-! need_cords -/
abbrev s_need_cords : Stmt := top 21
abbrev n_need_cords : List Str := ["cords"]
abbrev p_need_cords : List Str := ["cords"]
theorem sc_need_cords : FnScope n_need_cords p_need_cords (defScope s_need_cords) := ⟨rfl, rfl, rfl, by decide +kernel, rfl, by decide +kernel, by decide +kernel⟩
def g_need_cords : Gx := (gSeq (gIf (fNot (fDef F_is_within (fCons (fVar 0) (fCons (fC (.int 2)) (fCons (fC (.int 5)) fNil)))))
    gNever
    gNext)
    (gRetV 0))
def F_need_cords : List D → Sto → Res := def0 p_need_cords.length n_need_cords.length g_need_cords
theorem ok_need_cords {P : Program} {w : World} {K : PySem.W.Frag} {mg : Str → Option Value} {base : Heap} {f : Addr} {fd : FuncData} (T : Txt K mg) (F : Fun K "need_cords" "need_cords" s_need_cords f fd) (hm : mg "need_cords" = some (.ref f)) (B : Binds K fd p_need_cords []) (H_is_within : HeldG P w K mg base 2 "is_within" F_is_within) : HeldG P w K mg base 3 "need_cords" F_need_cords :=
  held_mk F sc_need_cords hm B fun cdv A outer s H E c cc hr gd => by
    have hu := units_of hr
    have hu1 : (A.deeper (envOfC "need_cords" (defScope s_need_cords) s.heap.objs.size f cdv)).units + 1 < cLine := by omega
    exact (qsCons (qIf (qtNot (qtVal (toT (qCallH cc H_is_within hr gd (qCons (qv 0) (qCons (toT (qCst cc T.c_LEAST_CORDS)) (qCons (toT (qCst cc T.c_MOST_CORDS)) qNil)))))))
      (qsOne qNever)
      qsNil)
      (qsOne (qRetV 0)))
/-! met_in -/
abbrev s_met_in : Stmt := top 25
abbrev n_met_in : List Str := ["cords", "row", "held", "found", "side", "place", "near", "far"]
abbrev p_met_in : List Str := ["cords", "row"]
theorem sc_met_in : FnScope n_met_in p_met_in (defScope s_met_in) := ⟨rfl, rfl, rfl, by decide +kernel, rfl, by decide +kernel, by decide +kernel⟩
def g_met_in : Gx := (gSeq (gSet 2 (f1 dRgL1 (fVar 0)))
    (gSeq (gSet 3 (fLst fNil))
    (gSeq (gFor (fSlot 1) (tfOf (tnTup 2 (tnCons (tnName 4) (tnCons (tnName 5) tnNil))))
    (gSeq (gParK false false 6 7 (f2S dIx (fVar 2) (fVar 5)) (f2S dIx (fVar 2) (f2 dAdd (fVar 5) (fC (.int 1)))))
    (gSeq (gApp 3 (fIf (f2S dEqS (fVar 4) (fC (.str "left"))) (fTup true (fCons (fVarR 6) (fCons (fVarR 7) (fCons (fC (.int 1)) fNil)))) (fTup true (fCons (fVarR 7) (fCons (fVarR 6) (fCons (f1 dNeg (fC (.int 1))) fNil))))))
    (gAs (fTup true (fCons (fVarR 7) (fCons (fVarR 6) fNil))) (tfTup 2 (tfCons (tfSub 2 (fVar 5)) (tfCons (tfSub 2 (f2 dAdd (fVar 5) (fC (.int 1)))) tfNil)))))))
    (gRetV 3))))
def F_met_in : List D → Sto → Res := def0 p_met_in.length n_met_in.length g_met_in
theorem ok_met_in {P : Program} {w : World} {K : PySem.W.Frag} {mg : Str → Option Value} {base : Heap} {f : Addr} {fd : FuncData} (T : Txt K mg) (F : Fun K "met_in" "met_in" s_met_in f fd) (hm : mg "met_in" = some (.ref f)) (B : Binds K fd p_met_in [])  : HeldG P w K mg base 1 "met_in" F_met_in :=
  held_mk F sc_met_in hm B fun cdv A outer s H E c cc hr gd => by
    have hu := units_of hr
    have hu1 : (A.deeper (envOfC "met_in" (defScope s_met_in) s.heap.objs.size f cdv)).units + 1 < cLine := by omega
    exact (qsCons (qSet (i := 2) sc_met_in.nd (qListRg1 rfl T.z_list T.z_range (qv 0)))
      (qsCons (qSet (i := 3) sc_met_in.nd (qLst qNil))
      (qsCons (qFor cc PassesOwn.never rfl (qiSeq cc.K (srcV 1)) (qtX (vs := [4, 5]) (qtTup rfl (qtCons (qtName (i := 4) (vs := [4, 5]) sc_met_in.nd (by decide)) (qtCons (qtName (i := 5) (vs := [4, 5]) sc_met_in.nd (by decide)) qtNil)))) (fun c cc =>
      (qsCons (qParK false false rfl sc_met_in.nd (qIx cc (qv 2) (qv 5)) (qIx cc (qv 2) (toT (qAdd cc (qv 5) (toT qInt)))) (i := 6) (j := 7))
      (qsCons (qApp (i := 3) (qIfE (qEqT cc hu (qv 4) (toT (qCst cc T.c_LEFT))) (fToR (qTup (qCons (qvR 6) (qCons (qvR 7) (qCons qInt qNil))))) (fToR (qTup (qCons (qvR 7) (qCons (qvR 6) (qCons (fToR (qNeg (toT qInt))) qNil)))))))
      (qsOne (qAs cc (fToR (qTup (qCons (qvR 7) (qCons (qvR 6) qNil)))) (qxTup rfl (qxCons (qxSub (i := 2) hu1 (fun c cc => (qv 5))) (qxCons (qxSub (i := 2) hu1 (fun c cc => (toT (qAdd cc (qv 5) (toT qInt))))) qxNil)))))))))
      (qsOne (qRetV 3)))))
/-! pair_in -/
abbrev s_pair_in : Stmt := top 52
abbrev n_pair_in : List Str := ["cords", "row", "found", "cord", "far_cord", "over", "under", "sign"]
abbrev p_pair_in : List Str := ["cords", "row"]
theorem sc_pair_in : FnScope n_pair_in p_pair_in (defScope s_pair_in) := ⟨rfl, rfl, rfl, by decide +kernel, rfl, by decide +kernel, by decide +kernel⟩
def g_pair_in : Gx := (gSeq (gSetR 2 fDNewT)
    (gSeq (gFor (fRange1 (fCons (fVar 0) fNil)) (tfOf (tnName 3))
    (gFor (fRange2 (fCons (f2 dAdd (fVar 3) (fC (.int 1))) (fCons (fVar 0) fNil))) (tfOf (tnName 4))
    (gAs (fC (.int 0)) (tfKey (fVar 2) (fCons (fVarR 3) (fCons (fVarR 4) fNil))))))
    (gSeq (gFor (fItems (fDef F_met_in (fCons (fVar 0) (fCons (fVar 1) fNil)))) (tfOf (tnTup 3 (tnCons (tnName 5) (tnCons (tnName 6) (tnCons (tnName 7) tnNil)))))
    (gAugT (fVar 2) (fTup true (fCons (fCall dMin2 (fCons (fVar 5) (fCons (fVar 6) fNil))) (fCons (fCall dMax2 (fCons (fVar 5) (fCons (fVar 6) fNil))) fNil))) (fVar 7) dIadd))
    (gRetV 2))))
def F_pair_in : List D → Sto → Res := def0 p_pair_in.length n_pair_in.length g_pair_in
theorem ok_pair_in {P : Program} {w : World} {K : PySem.W.Frag} {mg : Str → Option Value} {base : Heap} {f : Addr} {fd : FuncData} (T : Txt K mg) (F : Fun K "pair_in" "pair_in" s_pair_in f fd) (hm : mg "pair_in" = some (.ref f)) (B : Binds K fd p_pair_in []) (H_met_in : HeldG P w K mg base 1 "met_in" F_met_in) : HeldG P w K mg base 2 "pair_in" F_pair_in :=
  held_mk F sc_pair_in hm B fun cdv A outer s H E c cc hr gd => by
    have hu := units_of hr
    have hu1 : (A.deeper (envOfC "pair_in" (defScope s_pair_in) s.heap.objs.size f cdv)).units + 1 < cLine := by omega
    exact (qsCons (qSetR (i := 2) sc_pair_in.nd qDNewT)
      (qsCons (qFor cc PassesOwn.never rfl (qiRange1 (qCons (qv 0) qNil) T.z_range) (qtX (vs := [3]) (qtName (i := 3) (vs := [3]) sc_pair_in.nd (by decide))) (fun c cc =>
      (qsOne (qFor cc PassesOwn.never rfl (qiRange2 (qCons (toT (qAdd cc (qv 3) (toT qInt))) (qCons (qv 0) qNil)) T.z_range) (qtX (vs := [4]) (qtName (i := 4) (vs := [4]) sc_pair_in.nd (by decide))) (fun c cc =>
      (qsOne (qAs cc qInt (qxKey hu1 (fun c cc => (qv 2)) (fun c cc => (qCons (qvR 3) (qCons (qvR 4) qNil)))))))))))
      (qsCons (qFor cc PassesOwn.never rfl (qiSeq cc.K (srcR (fToR (qCallH cc H_met_in hr gd (qCons (qv 0) (qCons (qv 1) qNil)))))) (qtX (vs := [5, 6, 7]) (qtTup rfl (qtCons (qtName (i := 5) (vs := [5, 6, 7]) sc_pair_in.nd (by decide)) (qtCons (qtName (i := 6) (vs := [5, 6, 7]) sc_pair_in.nd (by decide)) (qtCons (qtName (i := 7) (vs := [5, 6, 7]) sc_pair_in.nd (by decide)) qtNil))))) (fun c cc =>
      (qsOne (qAugT cc hu1 iop_add ok_iadd (qv 2) (toT (qTup (qCons (fToR (qMin2 rfl T.z_min (qCons (qv 5) (qCons (qv 6) qNil)))) (qCons (fToR (qMax2 rfl T.z_max (qCons (qv 5) (qCons (qv 6) qNil)))) qNil)))) (qv 7)))))
      (qsOne (qRetV 2)))))
/-! pair_numbers -/
abbrev s_pair_numbers : Stmt := top 54
abbrev n_pair_numbers : List Str := ["cords", "row", "cord", "far_cord", "number"]
abbrev p_pair_numbers : List Str := ["cords", "row"]
theorem sc_pair_numbers : FnScope n_pair_numbers p_pair_numbers (defScope s_pair_numbers) := ⟨rfl, rfl, rfl, by decide +kernel, rfl, by decide +kernel, by decide +kernel⟩
def g_pair_numbers : Gx := (gSeq (gExpr (fDef F_need_row (fCons (fDef F_need_cords (fCons (fVar 0) fNil)) (fCons (fVar 1) fNil))))
    (gRet (fCall dTup (fCons (fLc [2, 3, 4] (fItemsT (fDef F_pair_in (fCons (fVar 0) (fCons (fVar 1) fNil)))) (tnTup 2 (tnCons (tnTup 2 (tnCons (tnName 2) (tnCons (tnName 3) tnNil))) (tnCons (tnName 4) tnNil))) fYes (fTup true (fCons (fVarR 2) (fCons (fVarR 3) (fCons (fVarR 4) fNil))))) fNil))))
def F_pair_numbers : List D → Sto → Res := def0 p_pair_numbers.length n_pair_numbers.length g_pair_numbers
theorem ok_pair_numbers {P : Program} {w : World} {K : PySem.W.Frag} {mg : Str → Option Value} {base : Heap} {f : Addr} {fd : FuncData} (T : Txt K mg) (F : Fun K "pair_numbers" "pair_numbers" s_pair_numbers f fd) (hm : mg "pair_numbers" = some (.ref f)) (B : Binds K fd p_pair_numbers []) (H_need_row : HeldG P w K mg base 6 "need_row" F_need_row) (H_need_cords : HeldG P w K mg base 3 "need_cords" F_need_cords) (H_pair_in : HeldG P w K mg base 2 "pair_in" F_pair_in) : HeldG P w K mg base 7 "pair_numbers" F_pair_numbers :=
  held_mk F sc_pair_numbers hm B fun cdv A outer s H E c cc hr gd => by
    have hu := units_of hr
    have hu1 : (A.deeper (envOfC "pair_numbers" (defScope s_pair_numbers) s.heap.objs.size f cdv)).units + 1 < cLine := by omega
    exact (qsCons (qExpr (toT (qCallH cc H_need_row hr gd (qCons (toT (qCallH cc H_need_cords hr gd (qCons (qv 0) qNil))) (qCons (qv 1) qNil)))))
      (qsOne (qRet (qTuple cc T.z_tuple (qCons (toT (qLcW cc rfl sc_pair_numbers.nd (own := [("cord", 2), ("far_cord", 3), ("number", 4)]) (g := (gTup K 2 (gCons (gTup K 2 (gCons (gName 2) (gCons (gName 3) gNil))) (gCons (gName 4) gNil)))) (blkOk_by (show blkC n_pair_numbers (defScope s_pair_numbers) _ [("cord", 2), ("far_cord", 3), ("number", 4)] = true from by decide +kernel)) (qiItemsT cc.K (toT (qCallH cc H_pair_in hr gd (qCons (qv 0) (qCons (qv 1) qNil))))) (fun _ _ _ _ _ => (qtTup rfl (qtCons (qtTup rfl (qtCons (qtName (i := 2) (vs := [2, 3, 4]) sc_pair_numbers.nd (by decide)) (qtCons (qtName (i := 3) (vs := [2, 3, 4]) sc_pair_numbers.nd (by decide)) qtNil))) (qtCons (qtName (i := 4) (vs := [2, 3, 4]) sc_pair_numbers.nd (by decide)) qtNil)))) (fun _ _ _ _ _ => qtsNil) (fun _ _ _ _ _ => (fToR (qTup (qCons (qvR 2) (qCons (qvR 3) (qCons (qvR 4) qNil)))))))) qNil)))))
/-! pair_number -/
abbrev s_pair_number : Stmt := top 53
abbrev n_pair_number : List Str := ["cords", "row", "cord", "far_cord"]
abbrev p_pair_number : List Str := ["cords", "row", "cord", "far_cord"]
theorem sc_pair_number : FnScope n_pair_number p_pair_number (defScope s_pair_number) := ⟨rfl, rfl, rfl, by decide +kernel, rfl, by decide +kernel, by decide +kernel⟩
def g_pair_number : Gx := (gSeq (gExpr (fDef F_need_row (fCons (fDef F_need_cords (fCons (fVar 0) fNil)) (fCons (fVar 1) fNil))))
    (gSeq (gIf (fNot (fDef F_is_within (fCons (fVar 2) (fCons (fC (.int 0)) (fCons (f2 dSub (fVar 0) (fC (.int 1))) fNil)))))
    gNever
    gNext)
    (gSeq (gIf (fNot (fDef F_is_within (fCons (fVar 3) (fCons (f2 dAdd (fVar 2) (fC (.int 1))) (fCons (f2 dSub (fVar 0) (fC (.int 1))) fNil)))))
    gNever
    gNext)
    (gRet (fNl (f2S dGetT (fDef F_pair_in (fCons (fVar 0) (fCons (fVar 1) fNil))) (fTup true (fCons (fVarR 2) (fCons (fVarR 3) fNil)))))))))
def F_pair_number : List D → Sto → Res := def0 p_pair_number.length n_pair_number.length g_pair_number
theorem ok_pair_number {P : Program} {w : World} {K : PySem.W.Frag} {mg : Str → Option Value} {base : Heap} {f : Addr} {fd : FuncData} (T : Txt K mg) (F : Fun K "pair_number" "pair_number" s_pair_number f fd) (hm : mg "pair_number" = some (.ref f)) (B : Binds K fd p_pair_number []) (H_is_within : HeldG P w K mg base 2 "is_within" F_is_within) (H_need_row : HeldG P w K mg base 6 "need_row" F_need_row) (H_need_cords : HeldG P w K mg base 3 "need_cords" F_need_cords) (H_pair_in : HeldG P w K mg base 2 "pair_in" F_pair_in) : HeldG P w K mg base 7 "pair_number" F_pair_number :=
  held_mk F sc_pair_number hm B fun cdv A outer s H E c cc hr gd => by
    have hu := units_of hr
    have hu1 : (A.deeper (envOfC "pair_number" (defScope s_pair_number) s.heap.objs.size f cdv)).units + 1 < cLine := by omega
    exact (qsCons (qExpr (toT (qCallH cc H_need_row hr gd (qCons (toT (qCallH cc H_need_cords hr gd (qCons (qv 0) qNil))) (qCons (qv 1) qNil)))))
      (qsCons (qIf (qtNot (qtVal (toT (qCallH cc H_is_within hr gd (qCons (qv 2) (qCons (toT qInt) (qCons (toT (qSub (qv 0) (toT qInt))) qNil)))))))
      (qsOne qNever)
      qsNil)
      (qsCons (qIf (qtNot (qtVal (toT (qCallH cc H_is_within hr gd (qCons (qv 3) (qCons (toT (qAdd cc (qv 2) (toT qInt))) (qCons (toT (qSub (qv 0) (toT qInt))) qNil)))))))
      (qsOne qNever)
      qsNil)
      (qsOne (qRet (rToF (toT (qGetT cc hu1 (toT (qCallH cc H_pair_in hr gd (qCons (qv 0) (qCons (qv 1) qNil)))) (toT (qTup (qCons (qvR 2) (qCons (qvR 3) qNil))))))))))))
/-! TermTable.__init__ -/
abbrev s_TermTable_init : Stmt := inClass (top 34) 0
abbrev n_TermTable_init : List Str := ["self", "cords", "cord"]
abbrev p_TermTable_init : List Str := ["self", "cords"]
theorem sc_TermTable_init : FnScope n_TermTable_init p_TermTable_init (defScope s_TermTable_init) := ⟨rfl, rfl, rfl, by decide +kernel, rfl, by decide +kernel, by decide +kernel⟩
def g_TermTable_init : Gx := (gSeq (gFldS "TermTable" "own_nodes" (fVar 0) (fLc [2] (fRange1 (fCons (fVar 1) fNil)) (tnName 2) fYes (fTup true (fCons (fC (.str "cord")) (fCons (fVarR 2) fNil)))))
    (gSeq (gFldS "TermTable" "own_sizes" (fVar 0) (fLc [2] (fRange1 (fCons (fVar 1) fNil)) (tnName 2) fYes (fC (.int 1))))
    (gSeq (gFldS "TermTable" "own_spots" (fVar 0) fDNewT)
    (gFldS "TermTable" "own_told" (fVar 0) fDNewK))))
def F_TermTable_init : List D → Sto → Res := def0 p_TermTable_init.length n_TermTable_init.length g_TermTable_init
theorem ok_TermTable_init {P : Program} {w : World} {K : PySem.W.Frag} {mg : Str → Option Value} {base : Heap} (T : Txt K mg) (A : InitAt K mg "TermTable" "TermTable.__init__" s_TermTable_init p_TermTable_init)  : HeldI P w K mg base 1 "TermTable" F_TermTable_init :=
  held_mkI A sc_TermTable_init fun f cdv A outer s H E c cc hr gd => by
    have hu := units_of hr
    have hu1 : (A.deeper (envOfC "TermTable.__init__" (defScope s_TermTable_init) s.heap.objs.size f cdv)).units + 1 < cLine := by omega
    exact (qsCons (qFldS cc T.k_TermTable T.f_TermTable_own_nodes (qv 0) (fToR (qLcW cc rfl sc_TermTable_init.nd (own := [("cord", 2)]) (g := (gName 2)) (blkOk_by (show blkC n_TermTable_init (defScope s_TermTable_init) _ [("cord", 2)] = true from by decide +kernel)) (qiRange1 (qCons (qv 1) qNil) T.z_range) (fun _ _ _ _ _ => (qtName (i := 2) (vs := [2]) sc_TermTable_init.nd (by decide))) (fun _ _ _ _ _ => qtsNil) (fun _ _ _ _ _ => (fToR (qTup (qCons (qCst cc T.c_CORD) (qCons (qvR 2) qNil))))))))
      (qsCons (qFldS cc T.k_TermTable T.f_TermTable_own_sizes (qv 0) (fToR (qLcW cc rfl sc_TermTable_init.nd (own := [("cord", 2)]) (g := (gName 2)) (blkOk_by (show blkC n_TermTable_init (defScope s_TermTable_init) _ [("cord", 2)] = true from by decide +kernel)) (qiRange1 (qCons (qv 1) qNil) T.z_range) (fun _ _ _ _ _ => (qtName (i := 2) (vs := [2]) sc_TermTable_init.nd (by decide))) (fun _ _ _ _ _ => qtsNil) (fun _ _ _ _ _ => qInt))))
      (qsCons (qFldS cc T.k_TermTable T.f_TermTable_own_spots (qv 0) qDNewT)
      (qsOne (qFldS cc T.k_TermTable T.f_TermTable_own_told (qv 0) qDNewK)))))
/-! FormStore.__init__ -/
abbrev s_FormStore_init : Stmt := inClass (top 48) 0
abbrev n_FormStore_init : List Str := ["self", "cords", "custom"]
abbrev p_FormStore_init : List Str := ["self", "cords", "custom"]
theorem sc_FormStore_init : FnScope n_FormStore_init p_FormStore_init (defScope s_FormStore_init) := ⟨rfl, rfl, rfl, by decide +kernel, rfl, by decide +kernel, by decide +kernel⟩
def g_FormStore_init : Gx := (gSeq (gFldS "FormStore" "own_cords" (fVar 0) (fVarR 1))
    (gSeq (gFldS "FormStore" "own_custom" (fVar 0) (fVarR 2))
    (gFldS "FormStore" "own_table" (fVar 0) (fMake "TermTable" F_TermTable_init (fCons (fVar 1) fNil)))))
def F_FormStore_init : List D → Sto → Res := def0 p_FormStore_init.length n_FormStore_init.length g_FormStore_init
theorem ok_FormStore_init {P : Program} {w : World} {K : PySem.W.Frag} {mg : Str → Option Value} {base : Heap} (T : Txt K mg) (A : InitAt K mg "FormStore" "FormStore.__init__" s_FormStore_init p_FormStore_init) (H_TermTable_init : HeldI P w K mg base 1 "TermTable" F_TermTable_init) : HeldI P w K mg base 3 "FormStore" F_FormStore_init :=
  held_mkI A sc_FormStore_init fun f cdv A outer s H E c cc hr gd => by
    have hu := units_of hr
    have hu1 : (A.deeper (envOfC "FormStore.__init__" (defScope s_FormStore_init) s.heap.objs.size f cdv)).units + 1 < cLine := by omega
    exact (qsCons (qFldS cc T.k_FormStore T.f_FormStore_own_cords (qv 0) (qvR 1))
      (qsCons (qFldS cc T.k_FormStore T.f_FormStore_own_custom (qv 0) (qvR 2))
      (qsOne (qFldS cc T.k_FormStore T.f_FormStore_own_table (qv 0) (qMake cc H_TermTable_init hr gd (qCons (qv 1) qNil))))))
/-! need_custom -/
abbrev s_need_custom : Stmt := top 23
abbrev n_need_custom : List Str := ["custom"]
abbrev p_need_custom : List Str := ["custom"]
theorem sc_need_custom : FnScope n_need_custom p_need_custom (defScope s_need_custom) := ⟨rfl, rfl, rfl, by decide +kernel, rfl, by decide +kernel, by decide +kernel⟩
def g_need_custom : Gx := (gSeq (gIf (fOr (fNot (f1S (dIsi "str") (fVar 0))) (f2S dNin (fVar 0) (fC (.tup true [.str "any", .str "back", .str "through", .str "began", .str "twice", .str "never"]))))
    gNever
    gNext)
    (gRetV 0))
def F_need_custom : List D → Sto → Res := def0 p_need_custom.length n_need_custom.length g_need_custom
theorem ok_need_custom {P : Program} {w : World} {K : PySem.W.Frag} {mg : Str → Option Value} {base : Heap} {f : Addr} {fd : FuncData} (T : Txt K mg) (F : Fun K "need_custom" "need_custom" s_need_custom f fd) (hm : mg "need_custom" = some (.ref f)) (B : Binds K fd p_need_custom [])  : HeldG P w K mg base 1 "need_custom" F_need_custom :=
  held_mk F sc_need_custom hm B fun cdv A outer s H E c cc hr gd => by
    have hu := units_of hr
    have hu1 : (A.deeper (envOfC "need_custom" (defScope s_need_custom) s.heap.objs.size f cdv)).units + 1 < cLine := by omega
    exact (qsCons (qIf ((qtOr (qtNot (qtVal (toT (qIsi (Ts := "str") cc T.z_isinstance T.z_str (by decide) boot_str (by decide) (qv 0))))) (pw_or1 (qNinT cc hu (qv 0) (toT (qCst cc T.c_CUSTOMS)))))).pt
      (qsOne qNever)
      qsNil)
      (qsOne (qRetV 0)))
/-! FormStore.told -/
abbrev s_FormStore_told : Stmt := inClass (top 48) 8
abbrev n_FormStore_told : List Str := ["self", "key", "number"]
abbrev p_FormStore_told : List Str := ["self", "key"]
theorem sc_FormStore_told : FnScope n_FormStore_told p_FormStore_told (defScope s_FormStore_told) := ⟨rfl, rfl, rfl, by decide +kernel, rfl, by decide +kernel, by decide +kernel⟩
def g_FormStore_told : Gx := (gSeq (gIf (f2S dNin (f1S (dFld "FormStore" "own_custom") (fVar 0)) (fC (.tup true [.str "any", .str "back"])))
    (gRetV 1)
    gNext)
    (gSeq gNever
    gNever))
def F_FormStore_told : List D → Sto → Res := def0 p_FormStore_told.length n_FormStore_told.length g_FormStore_told
theorem ok_FormStore_told {P : Program} {w : World} {K : PySem.W.Frag} {mg : Str → Option Value} {base : Heap} (T : Txt K mg) (A : MethAt K mg "FormStore" "told" "FormStore.told" s_FormStore_told p_FormStore_told)  : HeldM P w K mg base 1 "FormStore" "told" F_FormStore_told :=
  held_mkM A T.k_FormStore sc_FormStore_told fun f cdv A outer s H E c cc hr gd => by
    have hu := units_of hr
    have hu1 : (A.deeper (envOfC "FormStore.told" (defScope s_FormStore_told) s.heap.objs.size f cdv)).units + 1 < cLine := by omega
    exact (qsCons (qIf (qNinT cc hu (toT (qFld cc T.k_FormStore T.f_FormStore_own_custom (qv 0))) (toT (qCst cc T.c_TERM_CUSTOMS)))
      (qsOne (qRetV 1))
      qsNil)
      (qsCons qNever
      (qsOne qNever)))
/-! FormStore.under -/
abbrev s_FormStore_under : Stmt := inClass (top 48) 2
abbrev n_FormStore_under : List Str := ["self", "near", "far", "sign", "counts"]
abbrev p_FormStore_under : List Str := ["self", "near", "far", "sign"]
theorem sc_FormStore_under : FnScope n_FormStore_under p_FormStore_under (defScope s_FormStore_under) := ⟨rfl, rfl, rfl, by decide +kernel, rfl, by decide +kernel, by decide +kernel⟩
def g_FormStore_under : Gx := (gSeq (gIf (f2S dIn (f1S (dFld "FormStore" "own_custom") (fVar 0)) (fC (.tup true [.str "any", .str "back"])))
    gNever
    gNext)
    (gSeq (gIf (f2S dEqS (f1S (dFld "FormStore" "own_custom") (fVar 0)) (fC (.str "through")))
    gNever
    gNext)
    (gSeq (gIf (f2S dEqS (f1S (dFld "FormStore" "own_custom") (fVar 0)) (fC (.str "never")))
    (gRetV 2)
    gNext)
    (gSeq (gSet 4 (fCall dList (fCons (f2S dIx (fVar 2) (fC (.int 0))) fNil)))
    (gSeq (gAugL 4 (f2S dIx (fVar 1) (fC (.int 1))) (fVar 3) dIadd)
    (gSeq (gIf (f2S dEqS (f1S (dFld "FormStore" "own_custom") (fVar 0)) (fC (.str "twice")))
    (gAugL 4 (f2S dIx (fVar 1) (fC (.int 1))) (fC (.int 2)) dImod)
    gNext)
    (gRet (fTup true (fCons (fCall dTup (fCons (fVar 4) fNil)) (fCons (f2S dIx (fVar 2) (fC (.int 1))) fNil))))))))))
def F_FormStore_under : List D → Sto → Res := def0 p_FormStore_under.length n_FormStore_under.length g_FormStore_under
theorem ok_FormStore_under {P : Program} {w : World} {K : PySem.W.Frag} {mg : Str → Option Value} {base : Heap} (T : Txt K mg) (A : MethAt K mg "FormStore" "under" "FormStore.under" s_FormStore_under p_FormStore_under)  : HeldM P w K mg base 1 "FormStore" "under" F_FormStore_under :=
  held_mkM A T.k_FormStore sc_FormStore_under fun f cdv A outer s H E c cc hr gd => by
    have hu := units_of hr
    have hu1 : (A.deeper (envOfC "FormStore.under" (defScope s_FormStore_under) s.heap.objs.size f cdv)).units + 1 < cLine := by omega
    exact (qsCons (qIf (qInT cc hu (toT (qFld cc T.k_FormStore T.f_FormStore_own_custom (qv 0))) (toT (qCst cc T.c_TERM_CUSTOMS)))
      (qsOne qNever)
      qsNil)
      (qsCons (qIf (qEqT cc hu (toT (qFld cc T.k_FormStore T.f_FormStore_own_custom (qv 0))) (toT (qCst cc T.c_THROUGH)))
      (qsOne qNever)
      qsNil)
      (qsCons (qIf (qEqT cc hu (toT (qFld cc T.k_FormStore T.f_FormStore_own_custom (qv 0))) (toT (qCst cc T.c_NEVER)))
      (qsOne (qRetV 2))
      qsNil)
      (qsCons (qSet (i := 4) sc_FormStore_under.nd (qList cc T.z_list (qCons (toT (qIx cc (qv 2) (toT qInt))) qNil)))
      (qsCons (qAugL (i := 4) cc iop_add ok_iadd (toT (qIx cc (qv 1) (toT qInt))) (qv 3))
      (qsCons (qIf (qEqT cc hu (toT (qFld cc T.k_FormStore T.f_FormStore_own_custom (qv 0))) (toT (qCst cc T.c_TWICE)))
      (qsOne (qAugL (i := 4) cc iop_mod ok_imod (toT (qIx cc (qv 1) (toT qInt))) (toT qInt)))
      qsNil)
      (qsOne (qRet (qTup (qCons (fToR (qTuple cc T.z_tuple (qCons (qv 4) qNil))) (qCons (qIx cc (qv 2) (toT qInt)) qNil)))))))))))
/-! FormStore.crossed -/
abbrev s_FormStore_crossed : Stmt := inClass (top 48) 3
abbrev n_FormStore_crossed : List Str := ["self", "key", "crossing", "side", "place", "near", "far", "both"]
abbrev p_FormStore_crossed : List Str := ["self", "key", "crossing"]
theorem sc_FormStore_crossed : FnScope n_FormStore_crossed p_FormStore_crossed (defScope s_FormStore_crossed) := ⟨rfl, rfl, rfl, by decide +kernel, rfl, by decide +kernel, by decide +kernel⟩
def g_FormStore_crossed : Gx := (gSeq (gAs (fVarR 2) (tfTup 2 (tfCons (tfOf (tnName 3)) (tfCons (tfOf (tnName 4)) tfNil))))
    (gSeq (gParK false false 5 6 (f2S dIx (fVar 1) (fVar 4)) (f2S dIx (fVar 1) (f2 dAdd (fVar 4) (fC (.int 1)))))
    (gSeq (gIf (f2S dEqS (fVar 3) (fC (.str "left")))
    (gSet 7 (fTup true (fCons (fMeth "FormStore" "under" F_FormStore_under (fVar 0) (fCons (fVar 5) (fCons (fVar 6) (fCons (fC (.int 1)) fNil)))) (fCons (fVarR 5) fNil))))
    (gSet 7 (fTup true (fCons (fVarR 6) (fCons (fMeth "FormStore" "under" F_FormStore_under (fVar 0) (fCons (fVar 6) (fCons (fVar 5) (fCons (f1 dNeg (fC (.int 1))) fNil)))) fNil)))))
    (gRet (fTup true (fStar (fSl (fVar 1) fNo (fI (fVar 4))) (fStar (fVar 7) (fStar (fSl (fVar 1) (fI (f2 dAdd (fVar 4) (fC (.int 2)))) fNo) fNil))))))))
def F_FormStore_crossed : List D → Sto → Res := def0 p_FormStore_crossed.length n_FormStore_crossed.length g_FormStore_crossed
theorem ok_FormStore_crossed {P : Program} {w : World} {K : PySem.W.Frag} {mg : Str → Option Value} {base : Heap} (T : Txt K mg) (A : MethAt K mg "FormStore" "crossed" "FormStore.crossed" s_FormStore_crossed p_FormStore_crossed) (H_FormStore_under : HeldM P w K mg base 1 "FormStore" "under" F_FormStore_under) : HeldM P w K mg base 2 "FormStore" "crossed" F_FormStore_crossed :=
  held_mkM A T.k_FormStore sc_FormStore_crossed fun f cdv A outer s H E c cc hr gd => by
    have hu := units_of hr
    have hu1 : (A.deeper (envOfC "FormStore.crossed" (defScope s_FormStore_crossed) s.heap.objs.size f cdv)).units + 1 < cLine := by omega
    exact (qsCons (qAs cc (qvR 2) (qxTup rfl (qxCons (qtX (vs := [3]) (qtName sc_FormStore_crossed.nd (by decide))) (qxCons (qtX (vs := [4]) (qtName sc_FormStore_crossed.nd (by decide))) qxNil))))
      (qsCons (qParK false false rfl sc_FormStore_crossed.nd (qIx cc (qv 1) (qv 4)) (qIx cc (qv 1) (toT (qAdd cc (qv 4) (toT qInt)))) (i := 5) (j := 6))
      (qsCons (qIf (qEqT cc hu (qv 3) (toT (qCst cc T.c_LEFT)))
      (qsOne (qSet (i := 7) sc_FormStore_crossed.nd (qTup (qCons (fToR (qMeth cc H_FormStore_under hr gd (qv 0) (qCons (qv 5) (qCons (qv 6) (qCons (toT qInt) qNil))))) (qCons (qvR 5) qNil)))))
      (qsOne (qSet (i := 7) sc_FormStore_crossed.nd (qTup (qCons (qvR 6) (qCons (fToR (qMeth cc H_FormStore_under hr gd (qv 0) (qCons (qv 6) (qCons (qv 5) (qCons (toT (qNeg (toT qInt))) qNil))))) qNil))))))
      (qsOne (qRet (qTup (qStar cc (toT (qSl cc (qv 1) qPoN (qPoS (qv 4)))) (qStar cc (qv 7) (qStar cc (toT (qSl cc (qv 1) (qPoS (toT (qAdd cc (qv 4) (toT qInt)))) qPoN)) qNil)))))))))
/-! FormStore.led -/
abbrev s_FormStore_led : Stmt := inClass (top 48) 4
abbrev n_FormStore_led : List Str := ["self", "key", "row", "crossing"]
abbrev p_FormStore_led : List Str := ["self", "key", "row"]
theorem sc_FormStore_led : FnScope n_FormStore_led p_FormStore_led (defScope s_FormStore_led) := ⟨rfl, rfl, rfl, by decide +kernel, rfl, by decide +kernel, by decide +kernel⟩
def g_FormStore_led : Gx := (gSeq (gFor (fSlot 2) (tfOf (tnName 3))
    (gSet 1 (fMeth "FormStore" "crossed" F_FormStore_crossed (fVar 0) (fCons (fVar 1) (fCons (fVar 3) fNil)))))
    (gRetV 1))
def F_FormStore_led : List D → Sto → Res := def0 p_FormStore_led.length n_FormStore_led.length g_FormStore_led
theorem ok_FormStore_led {P : Program} {w : World} {K : PySem.W.Frag} {mg : Str → Option Value} {base : Heap} (T : Txt K mg) (A : MethAt K mg "FormStore" "led" "FormStore.led" s_FormStore_led p_FormStore_led) (H_FormStore_crossed : HeldM P w K mg base 2 "FormStore" "crossed" F_FormStore_crossed) : HeldM P w K mg base 3 "FormStore" "led" F_FormStore_led :=
  held_mkM A T.k_FormStore sc_FormStore_led fun f cdv A outer s H E c cc hr gd => by
    have hu := units_of hr
    have hu1 : (A.deeper (envOfC "FormStore.led" (defScope s_FormStore_led) s.heap.objs.size f cdv)).units + 1 < cLine := by omega
    exact (qsCons (qFor cc PassesOwn.never rfl (qiSeq cc.K (srcV 2)) (qtX (vs := [3]) (qtName (i := 3) (vs := [3]) sc_FormStore_led.nd (by decide))) (fun c cc =>
      (qsOne (qSet (i := 1) sc_FormStore_led.nd (qMeth cc H_FormStore_crossed hr gd (qv 0) (qCons (qv 1) (qCons (qv 3) qNil)))))))
      (qsOne (qRetV 1)))
/-! FormStore.beginning -/
abbrev s_FormStore_beginning : Stmt := inClass (top 48) 1
abbrev n_FormStore_beginning : List Str := ["self", "cord"]
abbrev p_FormStore_beginning : List Str := ["self"]
theorem sc_FormStore_beginning : FnScope n_FormStore_beginning p_FormStore_beginning (defScope s_FormStore_beginning) := ⟨rfl, rfl, rfl, by decide +kernel, rfl, by decide +kernel, by decide +kernel⟩
def g_FormStore_beginning : Gx := (gSeq (gIf (f2S dEqS (f1S (dFld "FormStore" "own_custom") (fVar 0)) (fC (.str "through")))
    gNever
    gNext)
    (gSeq (gIf (f2S dIn (f1S (dFld "FormStore" "own_custom") (fVar 0)) (fC (.tup true [.str "began", .str "twice"])))
    (gRet (fCall dTup (fCons (fLc [1] (fRange1 (fCons (f1S (dFld "FormStore" "own_cords") (fVar 0)) fNil)) (tnName 1) fYes (fTup true (fCons (f2 dMul (fTup true (fCons (fC (.int 0)) fNil)) (f1S (dFld "FormStore" "own_cords") (fVar 0))) (fCons (fVarR 1) fNil)))) fNil)))
    gNext)
    (gRet (f1 dRgT1 (f1S (dFld "FormStore" "own_cords") (fVar 0))))))
def F_FormStore_beginning : List D → Sto → Res := def0 p_FormStore_beginning.length n_FormStore_beginning.length g_FormStore_beginning
theorem ok_FormStore_beginning {P : Program} {w : World} {K : PySem.W.Frag} {mg : Str → Option Value} {base : Heap} (T : Txt K mg) (A : MethAt K mg "FormStore" "beginning" "FormStore.beginning" s_FormStore_beginning p_FormStore_beginning)  : HeldM P w K mg base 1 "FormStore" "beginning" F_FormStore_beginning :=
  held_mkM A T.k_FormStore sc_FormStore_beginning fun f cdv A outer s H E c cc hr gd => by
    have hu := units_of hr
    have hu1 : (A.deeper (envOfC "FormStore.beginning" (defScope s_FormStore_beginning) s.heap.objs.size f cdv)).units + 1 < cLine := by omega
    exact (qsCons (qIf (qEqT cc hu (toT (qFld cc T.k_FormStore T.f_FormStore_own_custom (qv 0))) (toT (qCst cc T.c_THROUGH)))
      (qsOne qNever)
      qsNil)
      (qsCons (qIf (qInT cc hu (toT (qFld cc T.k_FormStore T.f_FormStore_own_custom (qv 0))) (toT (qCst cc T.c_COUNT_CUSTOMS)))
      (qsOne (qRet (qTuple cc T.z_tuple (qCons (toT (qLcW cc rfl sc_FormStore_beginning.nd (own := [("cord", 1)]) (g := (gName 1)) (blkOk_by (show blkC n_FormStore_beginning (defScope s_FormStore_beginning) _ [("cord", 1)] = true from by decide +kernel)) (qiRange1 (qCons (toT (qFld cc T.k_FormStore T.f_FormStore_own_cords (qv 0))) qNil) T.z_range) (fun _ _ _ _ _ => (qtName (i := 1) (vs := [1]) sc_FormStore_beginning.nd (by decide))) (fun _ _ _ _ _ => qtsNil) (fun _ _ _ _ _ => (fToR (qTup (qCons (fToR (qMul cc (toT (qTup (qCons qInt qNil))) (toT (qFld cc T.k_FormStore T.f_FormStore_own_cords (qv 0))))) (qCons (qvR 1) qNil))))))) qNil))))
      qsNil)
      (qsOne (qRet (qTupRg1 rfl T.z_tuple T.z_range (toT (qFld cc T.k_FormStore T.f_FormStore_own_cords (qv 0))))))))
/-! FormStore.behind -/
abbrev s_FormStore_behind : Stmt := inClass (top 48) 5
abbrev n_FormStore_behind : List Str := ["self", "row"]
abbrev p_FormStore_behind : List Str := ["self", "row"]
theorem sc_FormStore_behind : FnScope n_FormStore_behind p_FormStore_behind (defScope s_FormStore_behind) := ⟨rfl, rfl, rfl, by decide +kernel, rfl, by decide +kernel, by decide +kernel⟩
def g_FormStore_behind : Gx := (gRet (fMeth "FormStore" "led" F_FormStore_led (fVar 0) (fCons (fMeth "FormStore" "beginning" F_FormStore_beginning (fVar 0) fNil) (fCons (fVar 1) fNil))))
def F_FormStore_behind : List D → Sto → Res := def0 p_FormStore_behind.length n_FormStore_behind.length g_FormStore_behind
theorem ok_FormStore_behind {P : Program} {w : World} {K : PySem.W.Frag} {mg : Str → Option Value} {base : Heap} (T : Txt K mg) (A : MethAt K mg "FormStore" "behind" "FormStore.behind" s_FormStore_behind p_FormStore_behind) (H_FormStore_led : HeldM P w K mg base 3 "FormStore" "led" F_FormStore_led) (H_FormStore_beginning : HeldM P w K mg base 1 "FormStore" "beginning" F_FormStore_beginning) : HeldM P w K mg base 4 "FormStore" "behind" F_FormStore_behind :=
  held_mkM A T.k_FormStore sc_FormStore_behind fun f cdv A outer s H E c cc hr gd => by
    have hu := units_of hr
    have hu1 : (A.deeper (envOfC "FormStore.behind" (defScope s_FormStore_behind) s.heap.objs.size f cdv)).units + 1 < cLine := by omega
    exact (qsOne (qRet (qMeth cc H_FormStore_led hr gd (qv 0) (qCons (toT (qMeth0 cc H_FormStore_beginning hr gd (qv 0))) (qCons (qv 1) qNil)))))
/-! forms_of -/
abbrev s_forms_of : Stmt := top 49
abbrev n_forms_of : List Str := ["cords", "row", "custom", "store"]
abbrev p_forms_of : List Str := ["cords", "row", "custom"]
theorem sc_forms_of : FnScope n_forms_of p_forms_of (defScope s_forms_of) := ⟨rfl, rfl, rfl, by decide +kernel, rfl, by decide +kernel, by decide +kernel⟩
def g_forms_of : Gx := (gSeq (gExpr (fDef F_need_row (fCons (fDef F_need_cords (fCons (fVar 0) fNil)) (fCons (fVar 1) fNil))))
    (gSeq (gSetR 3 (fMake "FormStore" F_FormStore_init (fCons (fVar 0) (fCons (fDef F_need_custom (fCons (fVar 2) fNil)) fNil))))
    (gRet (fMeth "FormStore" "told" F_FormStore_told (fVar 3) (fCons (fMeth "FormStore" "behind" F_FormStore_behind (fVar 3) (fCons (fVar 1) fNil)) fNil)))))
def F_forms_of : List D → Sto → Res := def0 p_forms_of.length n_forms_of.length g_forms_of
theorem ok_forms_of {P : Program} {w : World} {K : PySem.W.Frag} {mg : Str → Option Value} {base : Heap} {f : Addr} {fd : FuncData} (T : Txt K mg) (F : Fun K "forms_of" "forms_of" s_forms_of f fd) (hm : mg "forms_of" = some (.ref f)) (B : Binds K fd p_forms_of []) (H_need_row : HeldG P w K mg base 6 "need_row" F_need_row) (H_need_cords : HeldG P w K mg base 3 "need_cords" F_need_cords) (H_FormStore_init : HeldI P w K mg base 3 "FormStore" F_FormStore_init) (H_need_custom : HeldG P w K mg base 1 "need_custom" F_need_custom) (H_FormStore_told : HeldM P w K mg base 1 "FormStore" "told" F_FormStore_told) (H_FormStore_behind : HeldM P w K mg base 4 "FormStore" "behind" F_FormStore_behind) : HeldG P w K mg base 7 "forms_of" F_forms_of :=
  held_mk F sc_forms_of hm B fun cdv A outer s H E c cc hr gd => by
    have hu := units_of hr
    have hu1 : (A.deeper (envOfC "forms_of" (defScope s_forms_of) s.heap.objs.size f cdv)).units + 1 < cLine := by omega
    exact (qsCons (qExpr (toT (qCallH cc H_need_row hr gd (qCons (toT (qCallH cc H_need_cords hr gd (qCons (qv 0) qNil))) (qCons (qv 1) qNil)))))
      (qsCons (qSetR (i := 3) sc_forms_of.nd (qMake cc H_FormStore_init hr gd (qCons (qv 0) (qCons (toT (qCallH cc H_need_custom hr gd (qCons (qv 2) qNil))) qNil))))
      (qsOne (qRet (qMeth cc H_FormStore_told hr gd (qv 3) (qCons (toT (qMeth cc H_FormStore_behind hr gd (qv 3) (qCons (qv 1) qNil))) qNil))))))
/-! _law_told_by_pairs -/
abbrev s_law_told_by_pairs : Stmt := top 74
abbrev n_law_told_by_pairs : List Str := ["_law_cords_so", "_law_order_so", "_law_pairs_here", "_law_found", "_law_cord", "_law_counts_so", "_law_far"]
abbrev p_law_told_by_pairs : List Str := ["_law_cords_so", "_law_order_so", "_law_pairs_here"]
theorem sc_law_told_by_pairs : FnScope n_law_told_by_pairs p_law_told_by_pairs (defScope s_law_told_by_pairs) := ⟨rfl, rfl, rfl, by decide +kernel, rfl, by decide +kernel, by decide +kernel⟩
def g_law_told_by_pairs : Gx := (gSeq (gSet 3 (fLst fNil))
    (gSeq (gFor (fSlot 1) (tfOf (tnName 4))
    (gSeq (gSet 5 (fLst fNil))
    (gSeq (gFor (fRange1 (fCons (fVar 0) fNil)) (tfOf (tnName 6))
    (gIf (f2S dEqS (fVar 6) (fVar 4))
    (gApp 5 (fC (.int 0)))
    (gApp 5 (fIf (f2 dLtI (fVar 6) (fVar 4)) (f2 dDiv (f2 dAdd (f2S dGetT (fVar 2) (fTup true (fCons (fVarR 6) (fCons (fVarR 4) fNil)))) (fC (.int 1))) (fC (.int 2))) (f2 dDiv (f2S dGetT (fVar 2) (fTup true (fCons (fVarR 4) (fCons (fVarR 6) fNil)))) (fC (.int 2)))))))
    (gApp 3 (fTup true (fCons (fCall dTup (fCons (fVar 5) fNil)) (fCons (fVarR 4) fNil)))))))
    (gRet (fCall dTup (fCons (fVar 3) fNil)))))
def F_law_told_by_pairs : List D → Sto → Res := def0 p_law_told_by_pairs.length n_law_told_by_pairs.length g_law_told_by_pairs
theorem ok_law_told_by_pairs {P : Program} {w : World} {K : PySem.W.Frag} {mg : Str → Option Value} {base : Heap} {f : Addr} {fd : FuncData} (T : Txt K mg) (F : Fun K "_law_told_by_pairs" "_law_told_by_pairs" s_law_told_by_pairs f fd) (hm : mg "_law_told_by_pairs" = some (.ref f)) (B : Binds K fd p_law_told_by_pairs [])  : HeldG P w K mg base 1 "_law_told_by_pairs" F_law_told_by_pairs :=
  held_mk F sc_law_told_by_pairs hm B fun cdv A outer s H E c cc hr gd => by
    have hu := units_of hr
    have hu1 : (A.deeper (envOfC "_law_told_by_pairs" (defScope s_law_told_by_pairs) s.heap.objs.size f cdv)).units + 1 < cLine := by omega
    exact (qsCons (qSet (i := 3) sc_law_told_by_pairs.nd (qLst qNil))
      (qsCons (qFor cc PassesOwn.never rfl (qiSeq cc.K (srcV 1)) (qtX (vs := [4]) (qtName (i := 4) (vs := [4]) sc_law_told_by_pairs.nd (by decide))) (fun c cc =>
      (qsCons (qSet (i := 5) sc_law_told_by_pairs.nd (qLst qNil))
      (qsCons (qFor cc PassesOwn.never rfl (qiRange1 (qCons (qv 0) qNil) T.z_range) (qtX (vs := [6]) (qtName (i := 6) (vs := [6]) sc_law_told_by_pairs.nd (by decide))) (fun c cc =>
      (qsOne (qIf (qEqT cc hu (qv 6) (qv 4))
      (qsOne (qApp (i := 5) qInt))
      (qsOne (qApp (i := 5) (qIfE (qLtT (qv 6) (qv 4)) (fToR (qDiv (toT (qAdd cc (toT (qGetT cc hu1 (qv 2) (toT (qTup (qCons (qvR 6) (qCons (qvR 4) qNil)))))) (toT qInt))) (toT qInt))) (fToR (qDiv (toT (qGetT cc hu1 (qv 2) (toT (qTup (qCons (qvR 4) (qCons (qvR 6) qNil)))))) (toT qInt))))))))))
      (qsOne (qApp (i := 3) (fToR (qTup (qCons (fToR (qTuple cc T.z_tuple (qCons (qv 5) qNil))) (qCons (qvR 4) qNil))))))))))
      (qsOne (qRet (qTuple cc T.z_tuple (qCons (qv 3) qNil))))))
/-! _law_counts -/
abbrev s_law_counts : Stmt := top 68
abbrev n_law_counts : List Str := ["_law_cords_so", "_law_row_so", "_law_found", "_law_over", "_law_under", "_law_sign", "_law_cord"]
abbrev p_law_counts : List Str := ["_law_cords_so", "_law_row_so"]
theorem sc_law_counts : FnScope n_law_counts p_law_counts (defScope s_law_counts) := ⟨rfl, rfl, rfl, by decide +kernel, rfl, by decide +kernel, by decide +kernel⟩
def g_law_counts : Gx := (gSeq (gSet 2 (fLc [6] (fRange1 (fCons (fVar 0) fNil)) (tnName 6) fYes (fToS (f2 dMul (fLst (fCons (fC (.int 0)) fNil)) (fVar 0)))))
    (gSeq (gFor (fItems (f2S dIx (fDef F_law_walk (fCons (fVar 0) (fCons (fVar 1) fNil))) (fC (.int 0)))) (tfOf (tnTup 3 (tnCons (tnName 3) (tnCons (tnName 4) (tnCons (tnName 5) tnNil)))))
    (gAs (f2 dAdd (f2S dIx (f2S dIx (fVar 2) (fVar 4)) (fVar 3)) (fVar 5)) (tfSubE (f2S dIx (fVar 2) (fVar 4)) (fVar 3))))
    (gRetV 2)))
def F_law_counts : List D → Sto → Res := def0 p_law_counts.length n_law_counts.length g_law_counts
theorem ok_law_counts {P : Program} {w : World} {K : PySem.W.Frag} {mg : Str → Option Value} {base : Heap} {f : Addr} {fd : FuncData} (T : Txt K mg) (F : Fun K "_law_counts" "_law_counts" s_law_counts f fd) (hm : mg "_law_counts" = some (.ref f)) (B : Binds K fd p_law_counts []) (H_law_walk : HeldG P w K mg base 1 "_law_walk" F_law_walk) : HeldG P w K mg base 2 "_law_counts" F_law_counts :=
  held_mk F sc_law_counts hm B fun cdv A outer s H E c cc hr gd => by
    have hu := units_of hr
    have hu1 : (A.deeper (envOfC "_law_counts" (defScope s_law_counts) s.heap.objs.size f cdv)).units + 1 < cLine := by omega
    exact (qsCons (qSetLc (i := 2) cc rfl sc_law_counts.nd rfl rfl (sw_true rfl rfl rfl rfl) (own := [("_law_cord", 6)]) (g := (gName 6)) (blkOk_by (show blkC n_law_counts (defScope s_law_counts) _ [("_law_cord", 6)] = true from by decide +kernel)) (qiRange1 (qCons (qv 0) qNil) T.z_range) (fun _ _ _ _ _ => (qtName (i := 6) (vs := [6]) sc_law_counts.nd (by decide))) (fun _ _ _ _ _ => qtsNil) (fun _ _ _ _ _ => (qToS (qMul cc (toT (qLst (qCons qInt qNil))) (qv 0)))))
      (qsCons (qFor cc PassesOwn.never rfl (qiSeq cc.K (srcR (qIx cc (toT (qCallH cc H_law_walk hr gd (qCons (qv 0) (qCons (qv 1) qNil)))) (toT qInt)))) (qtX (vs := [3, 4, 5]) (qtTup rfl (qtCons (qtName (i := 3) (vs := [3, 4, 5]) sc_law_counts.nd (by decide)) (qtCons (qtName (i := 4) (vs := [3, 4, 5]) sc_law_counts.nd (by decide)) (qtCons (qtName (i := 5) (vs := [3, 4, 5]) sc_law_counts.nd (by decide)) qtNil))))) (fun c cc =>
      (qsOne (qAs cc (fToR (qAdd cc (toT (qIx cc (toT (qIx cc (qv 2) (qv 4))) (qv 3))) (qv 5))) (qxSubE hu1 (fun c cc => (toT (qIx cc (qv 2) (qv 4)))) (fun c cc => (qv 3)))))))
      (qsOne (qRetV 2))))
/-! _law_forms -/
abbrev s_law_forms : Stmt := top 71
abbrev n_law_forms : List Str := ["_law_cords_so", "_law_row_so", "_law_custom_so", "_law_most", "_law_order_so", "_law_held", "_law_some", "_law_sizes", "_law_term_so", "_law_words_so", "_law_counts_so", "_law_cord", "_law_line", "_law_one"]
abbrev p_law_forms : List Str := ["_law_cords_so", "_law_row_so", "_law_custom_so", "_law_most"]
theorem sc_law_forms : FnScope n_law_forms p_law_forms (defScope s_law_forms) := ⟨rfl, rfl, rfl, by decide +kernel, rfl, by decide +kernel, by decide +kernel⟩
def g_law_forms : Gx := (gSeq (gSetR 4 (f2S dIx (fDef F_law_walk (fCons (fVar 0) (fCons (fVar 1) fNil))) (fC (.int 1))))
    (gSeq (gIf (f2S dIn (fVar 2) (fTup true (fCons (fC (.str "any")) (fCons (fC (.str "back")) fNil))))
    (gSeq gNever
    (gSeq gNever
    (gSeq gNever
    (gSeq gNever
    gNever))))
    gNext)
    (gSeq (gIf (f2S dEqS (fVar 2) (fC (.str "through")))
    (gSeq gNever
    (gSeq gNever
    gNever))
    gNext)
    (gSeq (gIf (f2S dEqS (fVar 2) (fC (.str "never")))
    (gRetV 4)
    gNext)
    (gSeq (gSet 10 (fDef F_law_counts (fCons (fVar 0) (fCons (fVar 1) fNil))))
    (gSeq (gIf (f2S dEqS (fVar 2) (fC (.str "twice")))
    (gSet 10 (fLc [12] (fItems (fVar 10)) (tnName 12) fYes (fLc [13] (fItemsL (fVar 12)) (tnName 13) fYes (f2 dMod (fCall dInt (fCons (fVar 13) fNil)) (fC (.int 2))))))
    gNext)
    (gRet (fCall dTup (fCons (fLc [11] (fItems (fVar 4)) (tnName 11) fYes (fTup true (fCons (fCall dTup (fCons (f2S dIx (fVar 10) (fVar 11)) fNil)) (fCons (fVarR 11) fNil)))) fNil)))))))))
def F_law_forms : List D → Sto → Res := def0 p_law_forms.length n_law_forms.length g_law_forms
theorem ok_law_forms {P : Program} {w : World} {K : PySem.W.Frag} {mg : Str → Option Value} {base : Heap} {f : Addr} {fd : FuncData} (T : Txt K mg) (F : Fun K "_law_forms" "_law_forms" s_law_forms f fd) (hm : mg "_law_forms" = some (.ref f)) (B : Binds K fd p_law_forms []) (H_law_walk : HeldG P w K mg base 1 "_law_walk" F_law_walk) (H_law_counts : HeldG P w K mg base 2 "_law_counts" F_law_counts) : HeldG P w K mg base 3 "_law_forms" F_law_forms :=
  held_mk F sc_law_forms hm B fun cdv A outer s H E c cc hr gd => by
    have hu := units_of hr
    have hu1 : (A.deeper (envOfC "_law_forms" (defScope s_law_forms) s.heap.objs.size f cdv)).units + 1 < cLine := by omega
    exact (qsCons (qSetR (i := 4) sc_law_forms.nd (qIx cc (toT (qCallH cc H_law_walk hr gd (qCons (qv 0) (qCons (qv 1) qNil)))) (toT qInt)))
      (qsCons (qIf (qInT cc hu (qv 2) (toT (qTup (qCons qStr (qCons qStr qNil)))))
      (qsCons qNever
      (qsCons qNever
      (qsCons qNever
      (qsCons qNever
      (qsOne qNever)))))
      qsNil)
      (qsCons (qIf (qEqT cc hu (qv 2) (toT qStr))
      (qsCons qNever
      (qsCons qNever
      (qsOne qNever)))
      qsNil)
      (qsCons (qIf (qEqT cc hu (qv 2) (toT qStr))
      (qsOne (qRetV 4))
      qsNil)
      (qsCons (qSet (i := 10) sc_law_forms.nd (qCallH cc H_law_counts hr gd (qCons (qv 0) (qCons (qv 1) qNil))))
      (qsCons (qIf (qEqT cc hu (qv 2) (toT qStr))
      (qsOne (qSet (i := 10) sc_law_forms.nd (qLcW cc rfl sc_law_forms.nd (own := [("_law_line", 12)]) (g := (gName 12)) (blkOk_by (show blkC n_law_forms (defScope s_law_forms) _ [("_law_line", 12)] = true from by decide +kernel)) (qiSeq cc.K (srcT (qv 10))) (fun _ _ _ _ _ => (qtName (i := 12) (vs := [12]) sc_law_forms.nd (by decide))) (fun _ _ _ _ _ => qtsNil) (fun _ _ _ _ _ => (fToR (qLcW cc rfl sc_law_forms.nd (own := [("_law_one", 13)]) (g := (gName 13)) (blkOk_by (by first | rfl | kernel_rfl)) (qiSeq cc.K (srcL (qv 12))) (fun _ _ _ _ _ => (qtName (i := 13) (vs := [13]) sc_law_forms.nd (by decide))) (fun _ _ _ _ _ => qtsNil) (fun _ _ _ _ _ => (fToR (qMod (toT (qInt1 cc T.z_int (qCons (qv 13) qNil))) (toT qInt))))))))))
      qsNil)
      (qsOne (qRet (qTuple cc T.z_tuple (qCons (toT (qLcW cc rfl sc_law_forms.nd (own := [("_law_cord", 11)]) (g := (gName 11)) (blkOk_by (show blkC n_law_forms (defScope s_law_forms) _ [("_law_cord", 11)] = true from by decide +kernel)) (qiSeq cc.K (srcT (qv 4))) (fun _ _ _ _ _ => (qtName (i := 11) (vs := [11]) sc_law_forms.nd (by decide))) (fun _ _ _ _ _ => qtsNil) (fun _ _ _ _ _ => (fToR (qTup (qCons (fToR (qTuple cc T.z_tuple (qCons (toT (qIx cc (qv 10) (qv 11))) qNil))) (qCons (qvR 11) qNil))))))) qNil))))))))))
/-! alike_in -/
abbrev s_alike_in : Stmt := top 50
abbrev n_alike_in : List Str := ["cords", "row", "other", "custom", "store", "key"]
abbrev p_alike_in : List Str := ["cords", "row", "other", "custom"]
theorem sc_alike_in : FnScope n_alike_in p_alike_in (defScope s_alike_in) := ⟨rfl, rfl, rfl, by decide +kernel, rfl, by decide +kernel, by decide +kernel⟩
def g_alike_in : Gx := (gSeq (gSetR 4 (fMake "FormStore" F_FormStore_init (fCons (fVar 0) (fCons (fVar 3) fNil))))
    (gSeq (gSet 5 (fMeth "FormStore" "behind" F_FormStore_behind (fVar 4) (fCons (fVar 1) fNil)))
    (gRet (f2S dEqS (fMeth "FormStore" "behind" F_FormStore_behind (fVar 4) (fCons (fVar 2) fNil)) (fVar 5)))))
def F_alike_in : List D → Sto → Res := def0 p_alike_in.length n_alike_in.length g_alike_in
theorem ok_alike_in {P : Program} {w : World} {K : PySem.W.Frag} {mg : Str → Option Value} {base : Heap} {f : Addr} {fd : FuncData} (T : Txt K mg) (F : Fun K "alike_in" "alike_in" s_alike_in f fd) (hm : mg "alike_in" = some (.ref f)) (B : Binds K fd p_alike_in []) (H_FormStore_init : HeldI P w K mg base 3 "FormStore" F_FormStore_init) (H_FormStore_behind : HeldM P w K mg base 4 "FormStore" "behind" F_FormStore_behind) : HeldG P w K mg base 5 "alike_in" F_alike_in :=
  held_mk F sc_alike_in hm B fun cdv A outer s H E c cc hr gd => by
    have hu := units_of hr
    have hu1 : (A.deeper (envOfC "alike_in" (defScope s_alike_in) s.heap.objs.size f cdv)).units + 1 < cLine := by omega
    exact (qsCons (qSetR (i := 4) sc_alike_in.nd (qMake cc H_FormStore_init hr gd (qCons (qv 0) (qCons (qv 3) qNil))))
      (qsCons (qSet (i := 5) sc_alike_in.nd (qMeth cc H_FormStore_behind hr gd (qv 4) (qCons (qv 1) qNil)))
      (qsOne (qRet (qEq cc hu (toT (qMeth cc H_FormStore_behind hr gd (qv 4) (qCons (qv 2) qNil))) (qv 5))))))
/-! are_alike -/
abbrev s_are_alike : Stmt := top 51
abbrev n_are_alike : List Str := ["cords", "row", "other", "custom"]
abbrev p_are_alike : List Str := ["cords", "row", "other", "custom"]
theorem sc_are_alike : FnScope n_are_alike p_are_alike (defScope s_are_alike) := ⟨rfl, rfl, rfl, by decide +kernel, rfl, by decide +kernel, by decide +kernel⟩
def g_are_alike : Gx := (gSeq (gExpr (fDef F_need_row (fCons (fDef F_need_cords (fCons (fVar 0) fNil)) (fCons (fVar 1) fNil))))
    (gSeq (gExpr (fDef F_need_row (fCons (fVar 0) (fCons (fVar 2) fNil))))
    (gRet (fDef F_alike_in (fCons (fVar 0) (fCons (fVar 1) (fCons (fVar 2) (fCons (fDef F_need_custom (fCons (fVar 3) fNil)) fNil))))))))
def F_are_alike : List D → Sto → Res := def0 p_are_alike.length n_are_alike.length g_are_alike
theorem ok_are_alike {P : Program} {w : World} {K : PySem.W.Frag} {mg : Str → Option Value} {base : Heap} {f : Addr} {fd : FuncData} (T : Txt K mg) (F : Fun K "are_alike" "are_alike" s_are_alike f fd) (hm : mg "are_alike" = some (.ref f)) (B : Binds K fd p_are_alike []) (H_need_row : HeldG P w K mg base 6 "need_row" F_need_row) (H_need_cords : HeldG P w K mg base 3 "need_cords" F_need_cords) (H_need_custom : HeldG P w K mg base 1 "need_custom" F_need_custom) (H_alike_in : HeldG P w K mg base 5 "alike_in" F_alike_in) : HeldG P w K mg base 7 "are_alike" F_are_alike :=
  held_mk F sc_are_alike hm B fun cdv A outer s H E c cc hr gd => by
    have hu := units_of hr
    have hu1 : (A.deeper (envOfC "are_alike" (defScope s_are_alike) s.heap.objs.size f cdv)).units + 1 < cLine := by omega
    exact (qsCons (qExpr (toT (qCallH cc H_need_row hr gd (qCons (toT (qCallH cc H_need_cords hr gd (qCons (qv 0) qNil))) (qCons (qv 1) qNil)))))
      (qsCons (qExpr (toT (qCallH cc H_need_row hr gd (qCons (qv 0) (qCons (qv 2) qNil)))))
      (qsOne (qRet (qCallH cc H_alike_in hr gd (qCons (qv 0) (qCons (qv 1) (qCons (qv 2) (qCons (toT (qCallH cc H_need_custom hr gd (qCons (qv 3) qNil))) qNil)))))))))
/-! law -/
abbrev s_law : Stmt := top 75
abbrev n_law : List Str := ["_law_script", "_law_m", "_law_turn", "_law_cords_so", "_law_row_so", "_law_far_so", "_law_pairs_here", "_law_order_so", "_law_due", "_law_said", "_law_near_here", "_law_far", "_law_number", "_law_told", "_law_custom_so", "_law_same", "_law_pair"]
abbrev p_law : List Str := ["_law_script"]
theorem sc_law : FnScope n_law p_law (defScope s_law) := ⟨rfl, rfl, rfl, by decide +kernel, rfl, by decide +kernel, by decide +kernel⟩
def g_law : Gx := (gSeq (gSet 1 (fDef F_law_begun (fCons (fVar 0) fNil)))
    (gSeq (gFor (fRange1 (fCons (f2 dAdd (fC (.int 1)) (fCall dMin2 (fCons (fC (.int 4)) (fCons (fCall dLen (fCons (fVar 0) fNil)) fNil)))) fNil)) (tfOf (tnName 2))
    (gSeq (gSet 3 (f2 dAdd (fC (.int 2)) (fDef F_law_draw (fCons (fVar 1) (fCons (fC (.int 4)) fNil)))))
    (gSeq (gSet 4 (fDef F_law_row (fCons (fVar 1) (fCons (fVar 3) (fCons (fC (.int 20)) fNil)))))
    (gSeq (gSet 5 (fDef F_law_near (fCons (fVar 1) (fCons (fVar 3) (fCons (fVar 4) fNil)))))
    (gSeq (gAs (fTup true (fCons (fDef F_law_pairs (fCons (fVar 3) (fCons (fVar 4) fNil))) (fCons (f2S dIx (fDef F_law_walk (fCons (fVar 3) (fCons (fVar 4) fNil))) (fC (.int 1))) fNil))) (tfTup 2 (tfCons (tfOf (tnName 6)) (tfCons (tfOf (tnName 7)) tfNil))))
    (gSeq (gSet 8 (fLc [16] (fItems (fCall dSortT (fCons (fVar 6) fNil))) (tnName 16) fYes (fTup true (fCons (f2S dIx (fVar 16) (fC (.int 0))) (fCons (f2S dIx (fVar 16) (fC (.int 1))) (fCons (f2S dGetT (fVar 6) (fVar 16)) fNil))))))
    (gSeq (gIf (fNot (fDef F_law_like (fCons (fDef F_pair_numbers (fCons (fVar 3) (fCons (fVar 4) fNil))) (fCons (fCall dTup (fCons (fVar 8) fNil)) fNil))))
    (gRet (fC (.bl false)))
    gNext)
    (gSeq (gSet 9 (fLc [10, 11, 12] (fItems (fVar 8)) (tnTup 3 (tnCons (tnName 10) (tnCons (tnName 11) (tnCons (tnName 12) tnNil)))) fYes (fDef F_pair_number (fCons (fVar 3) (fCons (fVar 4) (fCons (fVar 10) (fCons (fVar 11) fNil)))))))
    (gSeq (gIf (fNot (fDef F_law_like (fCons (fVar 9) (fCons (fLc [10, 11, 12] (fItems (fVar 8)) (tnTup 3 (tnCons (tnName 10) (tnCons (tnName 11) (tnCons (tnName 12) tnNil)))) fYes (fVarR 12)) fNil))))
    (gRet (fC (.bl false)))
    gNext)
    (gSeq (gFrz 8 (gFor (fSlot 8) (tfOf (tnTup 3 (tnCons (tnName 10) (tnCons (tnName 11) (tnCons (tnName 12) tnNil)))))
    (gIf (f2S dNeS (f2 dMod (fCall dInt (fCons (fVar 12) fNil)) (fC (.int 2))) (fCall dInt (fCons (f2 dLtI (fIndex (fVar 7) (fVar 11)) (fIndex (fVar 7) (fVar 10))) fNil)))
    (gRet (fC (.bl false)))
    gNext)))
    (gSeq (gSet 13 (fDef F_forms_of (fCons (fVar 3) (fCons (fVar 4) (fCons (fC (.str "began")) fNil)))))
    (gSeq (gIf (fNot (fDef F_law_like (fCons (fVar 13) (fCons (fDef F_law_told_by_pairs (fCons (fVar 3) (fCons (fVar 7) (fCons (fVar 6) fNil)))) fNil))))
    (gRet (fC (.bl false)))
    gNext)
    (gFor (fItems (fTup true (fCons (fC (.str "began")) (fCons (fC (.str "twice")) (fCons (fC (.str "never")) fNil))))) (tfOf (tnName 14))
    (gSeq (gIf (fNot (fDef F_law_like (fCons (fDef F_forms_of (fCons (fVar 3) (fCons (fVar 4) (fCons (fVar 14) fNil)))) (fCons (fDef F_law_forms (fCons (fVar 3) (fCons (fVar 4) (fCons (fVar 14) (fCons (fC (.int 0)) fNil))))) fNil))))
    (gRet (fC (.bl false)))
    gNext)
    (gSeq (gSet 15 (f2S dEqS (fDef F_law_forms (fCons (fVar 3) (fCons (fVar 4) (fCons (fVar 14) (fCons (fC (.int 0)) fNil))))) (fDef F_law_forms (fCons (fVar 3) (fCons (fVar 5) (fCons (fVar 14) (fCons (fC (.int 0)) fNil)))))))
    (gSeq (gSet 9 (fLst (fCons (fDef F_are_alike (fCons (fVar 3) (fCons (fVar 4) (fCons (fVar 5) (fCons (fVar 14) fNil))))) (fCons (fDef F_are_alike (fCons (fVar 3) (fCons (fVar 5) (fCons (fVar 4) (fCons (fVar 14) fNil))))) fNil))))
    (gIf (fNot (fDef F_law_like (fCons (fVar 9) (fCons (fLst (fCons (fVarR 15) (fCons (fVarR 15) fNil))) fNil))))
    (gRet (fC (.bl false)))
    gNext)))))))))))))))))
    (gRet (fC (.bl true)))))
def F_law : List D → Sto → Res := def0 p_law.length n_law.length g_law
theorem ok_law {P : Program} {w : World} {K : PySem.W.Frag} {mg : Str → Option Value} {base : Heap} {f : Addr} {fd : FuncData} (T : Txt K mg) (F : Fun K "law" "law" s_law f fd) (hm : mg "law" = some (.ref f)) (B : Binds K fd p_law []) (H_law_begun : HeldG P w K mg base 2 "_law_begun" F_law_begun) (H_law_draw : HeldG P w K mg base 2 "_law_draw" F_law_draw) (H_law_row : HeldG P w K mg base 4 "_law_row" F_law_row) (H_law_near : HeldG P w K mg base 5 "_law_near" F_law_near) (H_law_walk : HeldG P w K mg base 1 "_law_walk" F_law_walk) (H_law_pairs : HeldG P w K mg base 2 "_law_pairs" F_law_pairs) (H_law_like : HeldG P w K mg base 1 "_law_like" F_law_like) (H_pair_numbers : HeldG P w K mg base 7 "pair_numbers" F_pair_numbers) (H_pair_number : HeldG P w K mg base 7 "pair_number" F_pair_number) (H_forms_of : HeldG P w K mg base 7 "forms_of" F_forms_of) (H_law_told_by_pairs : HeldG P w K mg base 1 "_law_told_by_pairs" F_law_told_by_pairs) (H_law_forms : HeldG P w K mg base 3 "_law_forms" F_law_forms) (H_are_alike : HeldG P w K mg base 7 "are_alike" F_are_alike) : HeldG P w K mg base 8 "law" F_law :=
  held_mk F sc_law hm B fun cdv A outer s H E c cc hr gd => by
    have hu := units_of hr
    have hu1 : (A.deeper (envOfC "law" (defScope s_law) s.heap.objs.size f cdv)).units + 1 < cLine := by omega
    exact (qsCons (qSet (i := 1) sc_law.nd (qCallH cc H_law_begun hr gd (qCons (qv 0) qNil)))
      (qsCons (qFor cc PassesOwn.never rfl (qiRange1 (qCons (toT (qAdd cc (toT qInt) (toT (qMin2 rfl T.z_min (qCons (toT qInt) (qCons (toT (qLen cc T.z_len (qCons (qv 0) qNil))) qNil)))))) qNil) T.z_range) (qtX (vs := [2]) (qtName (i := 2) (vs := [2]) sc_law.nd (by decide))) (fun c cc =>
      (qsCons (qSet (i := 3) sc_law.nd (qAdd cc (toT qInt) (toT (qCallH cc H_law_draw hr gd (qCons (qv 1) (qCons (toT qInt) qNil))))))
      (qsCons (qSet (i := 4) sc_law.nd (qCallH cc H_law_row hr gd (qCons (qv 1) (qCons (qv 3) (qCons (toT qInt) qNil)))))
      (qsCons (qSet (i := 5) sc_law.nd (qCallH cc H_law_near hr gd (qCons (qv 1) (qCons (qv 3) (qCons (qv 4) qNil)))))
      (qsCons (qAs cc (fToR (qTup (qCons (fToR (qCallH cc H_law_pairs hr gd (qCons (qv 3) (qCons (qv 4) qNil)))) (qCons (qIx cc (toT (qCallH cc H_law_walk hr gd (qCons (qv 3) (qCons (qv 4) qNil)))) (toT qInt)) qNil)))) (qxTup rfl (qxCons (qtX (vs := [6]) (qtName sc_law.nd (by decide))) (qxCons (qtX (vs := [7]) (qtName sc_law.nd (by decide))) qxNil))))
      (qsCons (qSetLc (i := 8) cc rfl sc_law.nd rfl rfl (sw_true rfl rfl rfl rfl) (own := [("_law_pair", 16)]) (g := (gName 16)) (blkOk_by (show blkC n_law (defScope s_law) _ [("_law_pair", 16)] = true from by decide +kernel)) (qiSeq cc.K (srcT (toT (qSortT rfl T.z_sorted (qCons (qv 6) qNil))))) (fun _ _ _ _ _ => (qtName (i := 16) (vs := [16]) sc_law.nd (by decide))) (fun _ _ _ _ _ => qtsNil) (fun _ _ _ _ _ => (fToR (qTup (qCons (qIx cc (qv 16) (toT qInt)) (qCons (qIx cc (qv 16) (toT qInt)) (qCons (qGetT cc hu1 (qv 6) (qv 16)) qNil)))))))
      (qsCons (qIf (qtNot (qtVal (toT (qCallH cc H_law_like hr gd (qCons (toT (qCallH cc H_pair_numbers hr gd (qCons (qv 3) (qCons (qv 4) qNil)))) (qCons (toT (qTuple cc T.z_tuple (qCons (qv 8) qNil))) qNil))))))
      (qsOne (qRet (cToF qBl)))
      qsNil)
      (qsCons (qSetLc (i := 9) cc rfl sc_law.nd rfl rfl (sw_true rfl rfl rfl rfl) (own := [("_law_near_here", 10), ("_law_far", 11), ("_law_number", 12)]) (g := (gTup K 3 (gCons (gName 10) (gCons (gName 11) (gCons (gName 12) gNil))))) (blkOk_by (show blkC n_law (defScope s_law) _ [("_law_near_here", 10), ("_law_far", 11), ("_law_number", 12)] = true from by decide +kernel)) (qiSeq cc.K (srcT (qv 8))) (fun _ _ _ _ _ => (qtTup rfl (qtCons (qtName (i := 10) (vs := [10, 11, 12]) sc_law.nd (by decide)) (qtCons (qtName (i := 11) (vs := [10, 11, 12]) sc_law.nd (by decide)) (qtCons (qtName (i := 12) (vs := [10, 11, 12]) sc_law.nd (by decide)) qtNil))))) (fun _ _ _ _ _ => qtsNil) (fun _ _ _ _ _ => (fToR (qCallH cc H_pair_number hr gd (qCons (qv 3) (qCons (qv 4) (qCons (qv 10) (qCons (qv 11) qNil))))))))
      (qsCons (qIf (qtNot (qtVal (toT (qCallH cc H_law_like hr gd (qCons (qv 9) (qCons (toT (qLcW cc rfl sc_law.nd (own := [("_law_near_here", 10), ("_law_far", 11), ("_law_number", 12)]) (g := (gTup K 3 (gCons (gName 10) (gCons (gName 11) (gCons (gName 12) gNil))))) (blkOk_by (show blkC n_law (defScope s_law) _ [("_law_near_here", 10), ("_law_far", 11), ("_law_number", 12)] = true from by decide +kernel)) (qiSeq cc.K (srcT (qv 8))) (fun _ _ _ _ _ => (qtTup rfl (qtCons (qtName (i := 10) (vs := [10, 11, 12]) sc_law.nd (by decide)) (qtCons (qtName (i := 11) (vs := [10, 11, 12]) sc_law.nd (by decide)) (qtCons (qtName (i := 12) (vs := [10, 11, 12]) sc_law.nd (by decide)) qtNil))))) (fun _ _ _ _ _ => qtsNil) (fun _ _ _ _ _ => (qvR 12)))) qNil))))))
      (qsOne (qRet (cToF qBl)))
      qsNil)
      (qsCons (qFrz (i := 8) (qFor cc PassesOwn.never rfl (qiSeq cc.K (srcV 8)) (qtX (vs := [10, 11, 12]) (qtTup rfl (qtCons (qtName (i := 10) (vs := [10, 11, 12]) sc_law.nd (by decide)) (qtCons (qtName (i := 11) (vs := [10, 11, 12]) sc_law.nd (by decide)) (qtCons (qtName (i := 12) (vs := [10, 11, 12]) sc_law.nd (by decide)) qtNil))))) (fun c cc =>
      (qsOne (qIf (qNeT cc hu (toT (qMod (toT (qInt1 cc T.z_int (qCons (qv 12) qNil))) (toT qInt))) (toT (qInt1 cc T.z_int (qCons (toT (qLt (toT (qIndex cc hu (qv 7) (qv 11))) (toT (qIndex cc hu (qv 7) (qv 10))))) qNil))))
      (qsOne (qRet (cToF qBl)))
      qsNil)))))
      (qsCons (qSet (i := 13) sc_law.nd (qCallH cc H_forms_of hr gd (qCons (qv 3) (qCons (qv 4) (qCons (toT qStr) qNil)))))
      (qsCons (qIf (qtNot (qtVal (toT (qCallH cc H_law_like hr gd (qCons (qv 13) (qCons (toT (qCallH cc H_law_told_by_pairs hr gd (qCons (qv 3) (qCons (qv 7) (qCons (qv 6) qNil))))) qNil))))))
      (qsOne (qRet (cToF qBl)))
      qsNil)
      (qsOne (qFor cc PassesOwn.never rfl (qiSeq cc.K (srcR (fToR (qTup (qCons qStr (qCons qStr (qCons qStr qNil))))))) (qtX (vs := [14]) (qtName (i := 14) (vs := [14]) sc_law.nd (by decide))) (fun c cc =>
      (qsCons (qIf (qtNot (qtVal (toT (qCallH cc H_law_like hr gd (qCons (toT (qCallH cc H_forms_of hr gd (qCons (qv 3) (qCons (qv 4) (qCons (qv 14) qNil))))) (qCons (toT (qCallH cc H_law_forms hr gd (qCons (qv 3) (qCons (qv 4) (qCons (qv 14) (qCons (toT qInt) qNil)))))) qNil))))))
      (qsOne (qRet (cToF qBl)))
      qsNil)
      (qsCons (qSet (i := 15) sc_law.nd (qEq cc hu (toT (qCallH cc H_law_forms hr gd (qCons (qv 3) (qCons (qv 4) (qCons (qv 14) (qCons (toT qInt) qNil)))))) (toT (qCallH cc H_law_forms hr gd (qCons (qv 3) (qCons (qv 5) (qCons (qv 14) (qCons (toT qInt) qNil))))))))
      (qsCons (qSet (i := 9) sc_law.nd (qLst (qCons (fToR (qCallH cc H_are_alike hr gd (qCons (qv 3) (qCons (qv 4) (qCons (qv 5) (qCons (qv 14) qNil)))))) (qCons (fToR (qCallH cc H_are_alike hr gd (qCons (qv 3) (qCons (qv 5) (qCons (qv 4) (qCons (qv 14) qNil)))))) qNil))))
      (qsOne (qIf (qtNot (qtVal (toT (qCallH cc H_law_like hr gd (qCons (qv 9) (qCons (toT (qLst (qCons (qvR 15) (qCons (qvR 15) qNil)))) qNil))))))
      (qsOne (qRet (cToF qBl)))
      qsNil)))))))))))))))))))))
      (qsOne (qRet (cToF qBl)))))
/-! the top -/
theorem all_mk {P : Program} {w : World} {K : PySem.W.Frag} {mg : Str → Option Value} (T : Txt K mg)
    (d_law_folded : DefAt K mg "_law_folded" s_law_folded p_law_folded)
    (d_law_begun : DefAt K mg "_law_begun" s_law_begun p_law_begun)
    (d_law_mixed : DefAt K mg "_law_mixed" s_law_mixed p_law_mixed)
    (d_law_draw : DefAt K mg "_law_draw" s_law_draw p_law_draw)
    (d_law_of : DefAt K mg "_law_of" s_law_of p_law_of)
    (d_law_row : DefAt K mg "_law_row" s_law_row p_law_row)
    (d_law_back : DefAt K mg "_law_back" s_law_back p_law_back)
    (d_law_near : DefAt K mg "_law_near" s_law_near p_law_near)
    (d_law_walk : DefAt K mg "_law_walk" s_law_walk p_law_walk)
    (d_law_pairs : DefAt K mg "_law_pairs" s_law_pairs p_law_pairs)
    (d_law_like : DefAt K mg "_law_like" s_law_like p_law_like)
    (d_first_bad : DefAt K mg "first_bad" s_first_bad p_first_bad)
    (d_is_tuple_of : DefAt K mg "is_tuple_of" s_is_tuple_of p_is_tuple_of)
    (d_is_side : DefAt K mg "is_side" s_is_side p_is_side)
    (d_is_number : DefAt K mg "is_number" s_is_number p_is_number)
    (d_is_within : DefAt K mg "is_within" s_is_within p_is_within)
    (d_is_crossing : DefAt K mg "is_crossing" s_is_crossing p_is_crossing)
    (d_need_row : DefAt K mg "need_row" s_need_row p_need_row)
    (d_need_cords : DefAt K mg "need_cords" s_need_cords p_need_cords)
    (d_met_in : DefAt K mg "met_in" s_met_in p_met_in)
    (d_pair_in : DefAt K mg "pair_in" s_pair_in p_pair_in)
    (d_pair_numbers : DefAt K mg "pair_numbers" s_pair_numbers p_pair_numbers)
    (d_pair_number : DefAt K mg "pair_number" s_pair_number p_pair_number)
    (d_TermTable_init : InitAt K mg "TermTable" "TermTable.__init__" s_TermTable_init p_TermTable_init)
    (d_FormStore_init : InitAt K mg "FormStore" "FormStore.__init__" s_FormStore_init p_FormStore_init)
    (d_need_custom : DefAt K mg "need_custom" s_need_custom p_need_custom)
    (d_FormStore_told : MethAt K mg "FormStore" "told" "FormStore.told" s_FormStore_told p_FormStore_told)
    (d_FormStore_under : MethAt K mg "FormStore" "under" "FormStore.under" s_FormStore_under p_FormStore_under)
    (d_FormStore_crossed : MethAt K mg "FormStore" "crossed" "FormStore.crossed" s_FormStore_crossed p_FormStore_crossed)
    (d_FormStore_led : MethAt K mg "FormStore" "led" "FormStore.led" s_FormStore_led p_FormStore_led)
    (d_FormStore_beginning : MethAt K mg "FormStore" "beginning" "FormStore.beginning" s_FormStore_beginning p_FormStore_beginning)
    (d_FormStore_behind : MethAt K mg "FormStore" "behind" "FormStore.behind" s_FormStore_behind p_FormStore_behind)
    (d_forms_of : DefAt K mg "forms_of" s_forms_of p_forms_of)
    (d_law_told_by_pairs : DefAt K mg "_law_told_by_pairs" s_law_told_by_pairs p_law_told_by_pairs)
    (d_law_counts : DefAt K mg "_law_counts" s_law_counts p_law_counts)
    (d_law_forms : DefAt K mg "_law_forms" s_law_forms p_law_forms)
    (d_alike_in : DefAt K mg "alike_in" s_alike_in p_alike_in)
    (d_are_alike : DefAt K mg "are_alike" s_are_alike p_are_alike)
    (d_law : DefAt K mg "law" s_law p_law)
    (t_need_row : TabIs K mg "need_row")
    : ∃ ts : List TabT, ts.map (·.1) = (["need_row"] : List Str) ∧ (∀ t ∈ ts, KTab K mg t ∧ K.lookup t.2.2 = none) ∧ (ts.map (·.2.2)).Nodup ∧ ∀ base : Heap, K.In base → base.Ns mainGlobals mg → (∀ m ∈ (["need_row"] : List Str), OwnTb K mg base m) → HeldG P w K mg base 65 "law" F_law := by
  obtain ⟨c_need_row, P_need_row, k_need_row, z_need_row⟩ := t_need_row
  obtain ⟨f_law_folded, fd_law_folded, m_law_folded, F_law_folded', B_law_folded⟩ := d_law_folded
  obtain ⟨f_law_begun, fd_law_begun, m_law_begun, F_law_begun', B_law_begun⟩ := d_law_begun
  obtain ⟨f_law_mixed, fd_law_mixed, m_law_mixed, F_law_mixed', B_law_mixed⟩ := d_law_mixed
  obtain ⟨f_law_draw, fd_law_draw, m_law_draw, F_law_draw', B_law_draw⟩ := d_law_draw
  obtain ⟨f_law_of, fd_law_of, m_law_of, F_law_of', B_law_of⟩ := d_law_of
  obtain ⟨f_law_row, fd_law_row, m_law_row, F_law_row', B_law_row⟩ := d_law_row
  obtain ⟨f_law_back, fd_law_back, m_law_back, F_law_back', B_law_back⟩ := d_law_back
  obtain ⟨f_law_near, fd_law_near, m_law_near, F_law_near', B_law_near⟩ := d_law_near
  obtain ⟨f_law_walk, fd_law_walk, m_law_walk, F_law_walk', B_law_walk⟩ := d_law_walk
  obtain ⟨f_law_pairs, fd_law_pairs, m_law_pairs, F_law_pairs', B_law_pairs⟩ := d_law_pairs
  obtain ⟨f_law_like, fd_law_like, m_law_like, F_law_like', B_law_like⟩ := d_law_like
  obtain ⟨f_first_bad, fd_first_bad, m_first_bad, F_first_bad', B_first_bad⟩ := d_first_bad
  obtain ⟨f_is_tuple_of, fd_is_tuple_of, m_is_tuple_of, F_is_tuple_of', B_is_tuple_of⟩ := d_is_tuple_of
  obtain ⟨f_is_side, fd_is_side, m_is_side, F_is_side', B_is_side⟩ := d_is_side
  obtain ⟨f_is_number, fd_is_number, m_is_number, F_is_number', B_is_number⟩ := d_is_number
  obtain ⟨f_is_within, fd_is_within, m_is_within, F_is_within', B_is_within⟩ := d_is_within
  obtain ⟨f_is_crossing, fd_is_crossing, m_is_crossing, F_is_crossing', B_is_crossing⟩ := d_is_crossing
  obtain ⟨f_need_row, fd_need_row, m_need_row, F_need_row', B_need_row⟩ := d_need_row
  obtain ⟨f_need_cords, fd_need_cords, m_need_cords, F_need_cords', B_need_cords⟩ := d_need_cords
  obtain ⟨f_met_in, fd_met_in, m_met_in, F_met_in', B_met_in⟩ := d_met_in
  obtain ⟨f_pair_in, fd_pair_in, m_pair_in, F_pair_in', B_pair_in⟩ := d_pair_in
  obtain ⟨f_pair_numbers, fd_pair_numbers, m_pair_numbers, F_pair_numbers', B_pair_numbers⟩ := d_pair_numbers
  obtain ⟨f_pair_number, fd_pair_number, m_pair_number, F_pair_number', B_pair_number⟩ := d_pair_number
  obtain ⟨f_need_custom, fd_need_custom, m_need_custom, F_need_custom', B_need_custom⟩ := d_need_custom
  obtain ⟨f_forms_of, fd_forms_of, m_forms_of, F_forms_of', B_forms_of⟩ := d_forms_of
  obtain ⟨f_law_told_by_pairs, fd_law_told_by_pairs, m_law_told_by_pairs, F_law_told_by_pairs', B_law_told_by_pairs⟩ := d_law_told_by_pairs
  obtain ⟨f_law_counts, fd_law_counts, m_law_counts, F_law_counts', B_law_counts⟩ := d_law_counts
  obtain ⟨f_law_forms, fd_law_forms, m_law_forms, F_law_forms', B_law_forms⟩ := d_law_forms
  obtain ⟨f_alike_in, fd_alike_in, m_alike_in, F_alike_in', B_alike_in⟩ := d_alike_in
  obtain ⟨f_are_alike, fd_are_alike, m_are_alike, F_are_alike', B_are_alike⟩ := d_are_alike
  obtain ⟨f_law, fd_law, m_law, F_law', B_law⟩ := d_law
  refine ⟨[("need_row", c_need_row, P_need_row)], rfl, fun t ht => ?_, List.nodup_cons.mpr ⟨by simp, List.nodup_nil⟩, fun base _ _ O => ?_⟩
  · rw [List.mem_singleton.mp ht]
    exact ⟨k_need_row, z_need_row⟩
  have H_law_folded := ok_law_folded (P := P) (w := w) (base := base) (T := T) (F := F_law_folded') (hm := m_law_folded) (B := B_law_folded)
  have H_law_begun := ok_law_begun (P := P) (w := w) (base := base) (T := T) (F := F_law_begun') (hm := m_law_begun) (B := B_law_begun) (H_law_folded := H_law_folded)
  have H_law_mixed := ok_law_mixed (P := P) (w := w) (base := base) (T := T) (F := F_law_mixed') (hm := m_law_mixed) (B := B_law_mixed)
  have H_law_draw := ok_law_draw (P := P) (w := w) (base := base) (T := T) (F := F_law_draw') (hm := m_law_draw) (B := B_law_draw) (H_law_mixed := H_law_mixed)
  have H_law_of := ok_law_of (P := P) (w := w) (base := base) (T := T) (F := F_law_of') (hm := m_law_of) (B := B_law_of) (H_law_draw := H_law_draw)
  have H_law_row := ok_law_row (P := P) (w := w) (base := base) (T := T) (F := F_law_row') (hm := m_law_row) (B := B_law_row) (H_law_draw := H_law_draw) (H_law_of := H_law_of)
  have H_law_back := ok_law_back (P := P) (w := w) (base := base) (T := T) (F := F_law_back') (hm := m_law_back) (B := B_law_back)
  have H_law_near := ok_law_near (P := P) (w := w) (base := base) (T := T) (F := F_law_near') (hm := m_law_near) (B := B_law_near) (H_law_draw := H_law_draw) (H_law_of := H_law_of) (H_law_row := H_law_row) (H_law_back := H_law_back)
  have H_law_walk := ok_law_walk (P := P) (w := w) (base := base) (T := T) (F := F_law_walk') (hm := m_law_walk) (B := B_law_walk)
  have H_law_pairs := ok_law_pairs (P := P) (w := w) (base := base) (T := T) (F := F_law_pairs') (hm := m_law_pairs) (B := B_law_pairs) (H_law_walk := H_law_walk)
  have H_law_like := ok_law_like (P := P) (w := w) (base := base) (T := T) (F := F_law_like') (hm := m_law_like) (B := B_law_like)
  have H_is_tuple_of := ok_is_tuple_of (P := P) (w := w) (base := base) (T := T) (F := F_is_tuple_of') (hm := m_is_tuple_of) (B := B_is_tuple_of)
  have H_is_side := ok_is_side (P := P) (w := w) (base := base) (T := T) (F := F_is_side') (hm := m_is_side) (B := B_is_side)
  have H_is_number := ok_is_number (P := P) (w := w) (base := base) (T := T) (F := F_is_number') (hm := m_is_number) (B := B_is_number)
  have H_is_within := ok_is_within (P := P) (w := w) (base := base) (T := T) (F := F_is_within') (hm := m_is_within) (B := B_is_within) (H_is_number := H_is_number)
  have H_is_crossing := ok_is_crossing (P := P) (w := w) (base := base) (T := T) (F := F_is_crossing') (hm := m_is_crossing) (B := B_is_crossing) (H_is_tuple_of := H_is_tuple_of) (H_is_side := H_is_side) (H_is_within := H_is_within)
  have H_need_row := ok_need_row (P := P) (w := w) (base := base) (T := T) (F := F_need_row') (hm := m_need_row) (B := B_need_row) (G_first_bad := F_first_bad') (hm_first_bad := m_first_bad) (B_first_bad := B_first_bad) (O := O _ (by simp)) (H_is_crossing := H_is_crossing)
  have H_need_cords := ok_need_cords (P := P) (w := w) (base := base) (T := T) (F := F_need_cords') (hm := m_need_cords) (B := B_need_cords) (H_is_within := H_is_within)
  have H_met_in := ok_met_in (P := P) (w := w) (base := base) (T := T) (F := F_met_in') (hm := m_met_in) (B := B_met_in)
  have H_pair_in := ok_pair_in (P := P) (w := w) (base := base) (T := T) (F := F_pair_in') (hm := m_pair_in) (B := B_pair_in) (H_met_in := H_met_in)
  have H_pair_numbers := ok_pair_numbers (P := P) (w := w) (base := base) (T := T) (F := F_pair_numbers') (hm := m_pair_numbers) (B := B_pair_numbers) (H_need_row := H_need_row) (H_need_cords := H_need_cords) (H_pair_in := H_pair_in)
  have H_pair_number := ok_pair_number (P := P) (w := w) (base := base) (T := T) (F := F_pair_number') (hm := m_pair_number) (B := B_pair_number) (H_is_within := H_is_within) (H_need_row := H_need_row) (H_need_cords := H_need_cords) (H_pair_in := H_pair_in)
  have H_TermTable_init := ok_TermTable_init (P := P) (w := w) (base := base) (T := T) (A := d_TermTable_init)
  have H_FormStore_init := ok_FormStore_init (P := P) (w := w) (base := base) (T := T) (A := d_FormStore_init) (H_TermTable_init := H_TermTable_init)
  have H_need_custom := ok_need_custom (P := P) (w := w) (base := base) (T := T) (F := F_need_custom') (hm := m_need_custom) (B := B_need_custom)
  have H_FormStore_told := ok_FormStore_told (P := P) (w := w) (base := base) (T := T) (A := d_FormStore_told)
  have H_FormStore_under := ok_FormStore_under (P := P) (w := w) (base := base) (T := T) (A := d_FormStore_under)
  have H_FormStore_crossed := ok_FormStore_crossed (P := P) (w := w) (base := base) (T := T) (A := d_FormStore_crossed) (H_FormStore_under := H_FormStore_under)
  have H_FormStore_led := ok_FormStore_led (P := P) (w := w) (base := base) (T := T) (A := d_FormStore_led) (H_FormStore_crossed := H_FormStore_crossed)
  have H_FormStore_beginning := ok_FormStore_beginning (P := P) (w := w) (base := base) (T := T) (A := d_FormStore_beginning)
  have H_FormStore_behind := ok_FormStore_behind (P := P) (w := w) (base := base) (T := T) (A := d_FormStore_behind) (H_FormStore_led := H_FormStore_led) (H_FormStore_beginning := H_FormStore_beginning)
  have H_forms_of := ok_forms_of (P := P) (w := w) (base := base) (T := T) (F := F_forms_of') (hm := m_forms_of) (B := B_forms_of) (H_need_row := H_need_row) (H_need_cords := H_need_cords) (H_FormStore_init := H_FormStore_init) (H_need_custom := H_need_custom) (H_FormStore_told := H_FormStore_told) (H_FormStore_behind := H_FormStore_behind)
  have H_law_told_by_pairs := ok_law_told_by_pairs (P := P) (w := w) (base := base) (T := T) (F := F_law_told_by_pairs') (hm := m_law_told_by_pairs) (B := B_law_told_by_pairs)
  have H_law_counts := ok_law_counts (P := P) (w := w) (base := base) (T := T) (F := F_law_counts') (hm := m_law_counts) (B := B_law_counts) (H_law_walk := H_law_walk)
  have H_law_forms := ok_law_forms (P := P) (w := w) (base := base) (T := T) (F := F_law_forms') (hm := m_law_forms) (B := B_law_forms) (H_law_walk := H_law_walk) (H_law_counts := H_law_counts)
  have H_alike_in := ok_alike_in (P := P) (w := w) (base := base) (T := T) (F := F_alike_in') (hm := m_alike_in) (B := B_alike_in) (H_FormStore_init := H_FormStore_init) (H_FormStore_behind := H_FormStore_behind)
  have H_are_alike := ok_are_alike (P := P) (w := w) (base := base) (T := T) (F := F_are_alike') (hm := m_are_alike) (B := B_are_alike) (H_need_row := H_need_row) (H_need_cords := H_need_cords) (H_need_custom := H_need_custom) (H_alike_in := H_alike_in)
  have H_law := ok_law (P := P) (w := w) (base := base) (T := T) (F := F_law') (hm := m_law) (B := B_law) (H_law_begun := H_law_begun) (H_law_draw := H_law_draw) (H_law_row := H_law_row) (H_law_near := H_law_near) (H_law_walk := H_law_walk) (H_law_pairs := H_law_pairs) (H_law_like := H_law_like) (H_pair_numbers := H_pair_numbers) (H_pair_number := H_pair_number) (H_forms_of := H_forms_of) (H_law_told_by_pairs := H_law_told_by_pairs) (H_law_forms := H_law_forms) (H_are_alike := H_are_alike)
  exact H_law.up (by decide)
end K14

set_option Elab.async false
set_option linter.all false
set_option maxRecDepth 100000
namespace K14
open PySem PySem.Spec L2 QL
open PyProof.Rows hiding St cutD
/-! from A1 -/
/-- a crossing -/
abbrev Cr := Bool × Nat
def sideS (b : Bool) : Str := if b = true then "left" else "right"
def crD (x : Cr) : D := .tup true [.str (sideS x.1), .int (x.2 : Nat)]
def rowD (z : Bool) (r : List Cr) : D := .tup z (r.map crD)
theorem e_number (i : Int) (S : Sto) : F_is_number [.int i] S = .ok (.bl true) S := rfl
theorem e_within (x a b : Int) (S : Sto) : F_is_within [.int x, .int a, .int b] S = .ok (.bl (decide (a ≤ x ∧ x ≤ b))) S := by
  by_cases h1 : a ≤ x
  · by_cases h2 : x ≤ b
    · simp [F_is_within, def0, g_is_within, gRet, thenG, rho0, slOf, fAnd, Res.bind, fDef, fCons, fNil, fVar, ARes.bind, e_number, fChain, lift, dLeI, dI2, h1, h2]
    · simp [F_is_within, def0, g_is_within, gRet, thenG, rho0, slOf, fAnd, Res.bind, fDef, fCons, fNil, fVar, ARes.bind, e_number, fChain, lift, dLeI, dI2, h1, h2]
  · simp [F_is_within, def0, g_is_within, gRet, thenG, rho0, slOf, fAnd, Res.bind, fDef, fCons, fNil, fVar, ARes.bind, e_number, fChain, lift, dLeI, dI2, h1]
theorem e_cords {c : Int} (h1 : 2 ≤ c) (h2 : c ≤ 5) (S : Sto) : F_need_cords [.int c] S = .ok (.int c) S := by
  simp [F_need_cords, def0, g_need_cords, gSeq, gIf, fNot, fC, gNext, gRetV, thenG, rho0, slOf, Res.bind, fDef, fCons, fNil, fVar, ARes.bind, e_within, h1, h2, D.nl]
theorem e_tuple2 (x : Cr) (S : Sto) : F_is_tuple_of [crD x, .int 2] S = .ok (.bl true) S := rfl
theorem sides_ok (b : Bool) : SeqAt.shaped (D.py (.str (sideS b))) = true ∧ PyData.canLayAll0 (D.pys [.str "left", .str "right"]) = true ∧ ((D.pys [.str "left", .str "right"]).any fun z => PyData.eqv z (D.py (.str (sideS b)))) = true := by
  cases b <;> decide +kernel
theorem d_side (b : Bool) (S : Sto) : dIn S (.str (sideS b)) (.tup true [.str "left", .str "right"]) = some (.bl true) := by
  obtain ⟨h1, h2, h3⟩ := sides_ok b
  simp only [dIn, D.res, D.items, Option.bind_some, h1, h2, h3, and_self, if_true]
theorem e_side (b : Bool) (S : Sto) : F_is_side [.str (sideS b)] S = .ok (.bl true) S := by
  have i0 : dIsi "str" S (.str (sideS b)) = some (.bl true) := rfl
  simp [F_is_side, def0, g_is_side, gRet, thenG, rho0, slOf, fAnd, Res.bind, f1S, f2S, fVar, fC, lift, i0, d_side]
theorem e_crossing {c : Int} {x : Cr} (h : (x.2 : Int) ≤ c - 2) (S : Sto) : F_is_crossing [.int c, crD x] S = .ok (.bl true) S := by
  have i0 : dIx S (crD x) (.int 0) = some (.str (sideS x.1)) := rfl
  have i1 : dIx S (crD x) (.int 1) = some (.int (x.2 : Nat)) := rfl
  show fbR (g_is_crossing [.val (.int c), .val (crD x)] S) = _
  simp [fbR, g_is_crossing, gRet, thenG, fAnd, Res.bind, fDef, fCons, fNil, fVar, fC, ARes.bind, f2S, f2, lift, e_tuple2, e_side, e_within, dSub, dI2, i0, i1, h]
/-- a row that is well made -/
def RowOk (c : Nat) (r : List Cr) : Prop := 2 ≤ c ∧ c ≤ 5 ∧ r.length ≤ 60 ∧ ∀ x ∈ r, x.2 + 2 ≤ c
theorem fb_all (fn : List D → Sto → Res) (S : Sto) : ∀ (ds : List D) (n : Nat), (∀ d ∈ ds, fn [d] S = .ok (.bl true) S) → fbGo fn (enD n ds) S = .ok .non S
  | [], n, _ => rfl
  | d :: ds, n, h => by
    unfold enD fbGo
    simp only [h d List.mem_cons_self]
    exact fb_all fn S ds (n + 1) fun x hx => h x (List.mem_cons_of_mem _ hx)
theorem e_row {c : Nat} {r : List Cr} (z : Bool) (h : RowOk c r) {S : Sto} (ht : hasTab "need_row" S = true) : F_need_row [.int c, rowD z r] S = .ok (rowD z r) S := by
  obtain ⟨h1, h2, h3, h4⟩ := h
  show fbR (g_need_row [.val (.int c), .val (rowD z r), .emp, .emp] S) = _
  have i0 : dIsi "tuple" S (rowD z r) = some (.bl true) := rfl
  have i1 : dLen S [rowD z r] = some (.int r.length) := by
    show some (D.int ((r.map crD).length : Nat)) = _
    rw [List.length_map]
  have i2 : F_first_bad (fn1 [.val (.int c), .val (rowD z r), .emp, .emp] 3 (fDef F_is_crossing (fCons (fVar 0) (fCons (fVar 3) fNil)))) (rowD z r) S = .ok .non S := by
    show fbGo _ (enD 0 (r.map crD)) S = _
    refine fb_all _ S _ 0 fun d hd => ?_
    obtain ⟨x, hx, rfl⟩ := List.mem_map.mp hd
    have := h4 x hx
    exact e_crossing (by omega) S
  have i3 : ¬ (60 : Int) < (r.length : Int) := by omega
  have s1 : (gIf (fOr (fNot (f1S (dIsi "tuple") (fVar 1))) (f2 dGtI (fCall dLen (fCons (fVar 1) fNil)) (fC (.int 60)))) gNever gNext) [.val (.int c), .val (rowD z r), .emp, .emp] S = .nx [.val (.int c), .val (rowD z r), .emp, .emp] S := by
    refine gIf_f ?_
    simp [fOr, fNot, f1S, f2, fCall, fC, Res.bind, fCons, fNil, fVar, ARes.bind, lift, dGtI, dI2, i0, i1, i3]
  have s2 : (gSet 2 (fLam "need_row" F_first_bad 3 (fVar 1) (fDef F_is_crossing (fCons (fVar 0) (fCons (fVar 3) fNil))))) [.val (.int c), .val (rowD z r), .emp, .emp] S = .nx [.val (.int c), .val (rowD z r), .val .non, .emp] S := by
    refine gSet_ok (d := .non) ?_
    show (if hasTab "need_row" S = true then F_first_bad _ (rowD z r) S else Res.stuck) = _
    rw [if_pos ht]
    exact i2
  unfold g_need_row
  rw [gSeq_nx s1, gSeq_nx s2]
  rfl
/-! from A2 -/
/-- turned over, mirrored -/
def flip (x : Cr) : Cr := (!x.1, x.2)
theorem d_eqS (S : Sto) (x y : Str) : dEqS S (.str x) (.str y) = some (.bl (decide (x = y))) := rfl
theorem side_left (b : Bool) : decide (sideS b = "left") = b := by cases b <;> decide +kernel
theorem side_right (b : Bool) : decide (sideS b = "right") = !b := by cases b <;> decide +kernel
section
variable {ρ : Rho} {S : Sto} {i : Nat} {b : Bool}
theorem is_left (h : ρ[i]? = some (.val (.str (sideS b)))) : f2S dEqS (fVar i) (fC (.str "left")) ρ S = .ok (.bl b) S := by
  have := f2S_ok (g := dEqS) (fVar_val (S := S) h) (show fC (.str "left") ρ S = .ok (.str "left") S from rfl) (d_eqS S _ _)
  rw [side_left] at this
  exact this
theorem is_right (h : ρ[i]? = some (.val (.str (sideS b)))) : f2S dEqS (fVar i) (fC (.str "right")) ρ S = .ok (.bl !b) S := by
  have := f2S_ok (g := dEqS) (fVar_val (S := S) h) (show fC (.str "right") ρ S = .ok (.str "right") S from rfl) (d_eqS S _ _)
  rw [side_right] at this
  exact this
theorem if_other (h : ρ[i]? = some (.val (.str (sideS b)))) : fIf (f2S dEqS (fVar i) (fC (.str "right"))) (fC (.str "left")) (fC (.str "right")) ρ S = .ok (.str (sideS !b)) S :=
  fIf_ok (is_right h) (fun h => by have : b = false := by simpa using h
                                   subst this; rfl) fun h => by have : b = true := by simpa using h
                                                                subst this; rfl
end
theorem row_items (z : Bool) (r : List Cr) : (rowD z r).items = some (r.map crD) := rfl
/-- the two targets of a crossing -/
theorem cr_tgt {i j : Nat} (x : Cr) (ρ : Rho) : tnTup 2 (tnCons (tnName i) (tnCons (tnName j) tnNil)) (crD x) ρ = some ((ρ.set i (.val (.str (sideS x.1)))).set j (.val (.int (x.2 : Nat)))) := rfl
theorem rowD_map (f : Cr → Cr) (r : List Cr) : (.tup true (r.map fun x => crD (f x)) : D) = rowD true (r.map f) := by
  unfold rowD
  rw [List.map_map]; rfl
theorem cr_val (b : Bool) (p : Nat) : (.tup true [.str (sideS b), .int (p : Nat)] : D) = crD (b, p) := rfl
section
variable {c : Nat} {r : List Cr} {S : Sto}
theorem RowOk.len (h : RowOk c r) : r.length ≤ 1000000 := by have := h.2.2.1; omega
/-! the law's own -/
theorem l_back (z : Bool) (h : RowOk c r) : F_law_back [rowD z r] S = .ok (rowD true (r.reverse.map flip)) S := by
  show fbR (g_law_back [.val (rowD z r), .emp, .emp] S) = _
  unfold g_law_back
  rw [gRet_ok (tup_ok (cons1 (fLc_map (xs := r.reverse) crD (fun x => crD (flip x)) (ds := (r.map crD).reverse) rfl List.map_reverse.symm (fun x hx => ⟨_, cr_tgt x _, fTup_ok (cons2 (if_other rfl) (fVarR_val rfl))⟩) (by rw [List.length_reverse]; exact h.len)))), rowD_map]
  rfl
theorem RowOk.flip (h : RowOk c r) : RowOk c (r.map flip) := ⟨h.1, h.2.1, by rw [List.length_map]; exact h.2.2.1, fun x hx => by
  obtain ⟨y, hy, rfl⟩ := List.mem_map.mp hx
  exact h.2.2.2 y hy⟩
theorem RowOk.rev (h : RowOk c r) : RowOk c r.reverse := ⟨h.1, h.2.1, by rw [List.length_reverse]; exact h.2.2.1, fun x hx => h.2.2.2 x (List.mem_reverse.mp hx)⟩
end
/-! from A3 -/
/-- cords as values -/
def cordsD (l : List Int) : List D := l.map D.int
def rgI (c : Nat) : List Int := (List.range c).map fun (i : Nat) => (i : Int)
def lastF (l : List Int) : List Cr → List Int
  | [] => l
  | x :: r => lastF (swapL l x.2) r
def ordD (l : List Int) : D := .tup true (cordsD l)
/-- what meets: over, under, sign -/
def metF (l : List Int) : List Cr → List (Int × Int × Bool)
  | [] => []
  | x :: r => (if x.1 = true then (l.getD x.2 0, l.getD (x.2 + 1) 0, true) else (l.getD (x.2 + 1) 0, l.getD x.2 0, false)) :: metF (swapL l x.2) r
def metD (m : Int × Int × Bool) : D := .tup true [.int m.1, .int m.2.1, .int (if m.2.2 = true then 1 else -1)]
section
variable {c : Nat} {r : List Cr} {S : Sto} {l : List Int} {x : Cr} {ρ : Rho}
theorem at_l (hl : x.2 + 1 < l.length) : l[x.2]? = some (l.getD x.2 0) ∧ l[x.2 + 1]? = some (l.getD (x.2 + 1) 0) := by
  refine ⟨?_, ?_⟩ <;> (rw [List.getD_eq_getElem?_getD, List.getElem?_eq_getElem (by omega)]; rfl)
theorem swap_l (hl : x.2 + 1 < l.length) : swapL l x.2 = (l.set x.2 (l.getD (x.2 + 1) 0)).set (x.2 + 1) (l.getD x.2 0) := swapL_eq (at_l hl).1 (at_l hl).2
/-- h[p], h[p + 1] = (h[p + 1], h[p]) -/
theorem st_swap {k : Nat} (h2 : ρ[2]? = some (.own (cordsD l))) (hk : ρ[k]? = some (.val (.int (x.2 : Nat)))) (nk : k ≠ 2) (hl : x.2 + 1 < l.length) :
    gAs (fTup true (fCons (f2S dIx (fVar 2) (f2 dAdd (fVar k) (fC (.int 1)))) (fCons (f2S dIx (fVar 2) (fVar k)) fNil))) (tfTup 2 (tfCons (tfSub 2 (fVar k)) (tfCons (tfSub 2 (f2 dAdd (fVar k) (fC (.int 1)))) tfNil))) ρ S = .nx (ρ.set 2 (.own (cordsD (swapL l x.2)))) S := by
  have i2 : 2 < ρ.length := (List.getElem?_eq_some_iff.mp h2).1
  have hp1 : ∀ ρ' : Rho, ρ'[k]? = some (.val (.int (x.2 : Nat))) → f2 dAdd (fVar k) (fC (.int 1)) ρ' S = .ok (.int ((x.2 : Nat) + 1)) S := fun ρ' h => f2_ok (fVar_val h) rfl rfl
  have len : (cordsD l).length = l.length := by unfold cordsD; rw [List.length_map]
  have a1 : (cordsD l)[x.2]? = some (.int (l.getD x.2 0)) := by unfold cordsD; rw [List.getElem?_map, (at_l hl).1]; rfl
  have a2 : (cordsD l)[x.2 + 1]? = some (.int (l.getD (x.2 + 1) 0)) := by unfold cordsD; rw [List.getElem?_map, (at_l hl).2]; rfl
  have e1 : f2S dIx (fVar 2) (f2 dAdd (fVar k) (fC (.int 1))) ρ S = .ok (.int (l.getD (x.2 + 1) 0)) S := f2S_ok (fVar_own h2) (hp1 ρ hk) (dIx_at rfl (by omega) a2)
  have e2 : f2S dIx (fVar 2) (fVar k) ρ S = .ok (.int (l.getD x.2 0)) S := f2S_ok (fVar_own h2) (fVar_val hk) (dIx_at rfl rfl a1)
  have nk' : ∀ s : Sl, (ρ.set 2 s)[k]? = some (.val (.int (x.2 : Nat))) := fun s => by rw [List.getElem?_set_ne (Ne.symm nk)]; exact hk
  refine gAs_ok (fTup_ok (cons2 e1 e2)) ((tfTup2 (tfSub_own h2 (fVar_val hk) rfl (by omega)) (tfSub_own (j := x.2 + 1) (List.getElem?_set_self i2) (hp1 _ (nk' _)) (by omega) (by rw [List.length_set]; omega))).trans ?_)
  rw [List.set_set, swap_l hl]
  unfold cordsD
  rw [List.map_set, List.map_set]
theorem list_rg (S : Sto) (hc : c ≤ 5) (h0 : ρ[0]? = some (.val (.int c))) : f1 dRgL1 (fVar 0) ρ S = .ok (.lst (cordsD (rgI c))) S := by
  refine f1_ok (fVar_val h0) ?_
  have hb : rgB 0 (c : Int) = true := by
    unfold rgB
    exact decide_eq_true ⟨by omega, by omega, by omega, by omega, by omega⟩
  show (if rgB 0 (c : Int) then some (D.lst (rgD 0 (c : Int).toNat)) else none) = _
  rw [if_pos hb]
  unfold rgD cordsD rgI
  rw [List.map_map, Int.toNat_natCast]
  congr 2
  refine List.map_congr_left fun i _ => ?_
  show D.int (0 + (i : Int)) = D.int i
  rw [Int.zero_add]
theorem rg_len (c : Nat) : (rgI c).length = c := by unfold rgI; simp
/-- place = crossing[1] -/
theorem st_place {i k : Nat} (hi : ρ[i]? = some (.val (crD x))) : gSetR k (f2S dIx (fVar i) (fC (.int 1))) ρ S = .nx (ρ.set k (.val (.int (x.2 : Nat)))) S := gSetR_ok (f2S_ok (fVar_val hi) rfl rfl)
theorem RowOk.fits (h : RowOk c r) : ∀ x ∈ r, x.2 + 1 < (rgI c).length := fun x hx => by
  have := h.2.2.2 x hx
  rw [rg_len]; omega
end
/-! from A15 -/
section
variable {c : Nat} {r : List Cr} {S : Sto} {l : List Int} {x : Cr} {ρ : Rho} {v i j : Int} {d e : D} {fa fb : Fx} {g : Gx} {S1 : Sto}
theorem gParK_ok {ka kb : Bool} {i j : Nat} {S2 : Sto} (h : fa ρ S = .ok d S1) (h2 : fb ρ S1 = .ok e S2) : gParK ka kb i j fa fb ρ S = .nx ((ρ.set i (putB ka d)).set j (putB kb e)) S2 := by unfold gParK; rw [h]; simp only [thenG]; rw [h2]
end
end K14

set_option Elab.async false
set_option linter.all false
set_option maxRecDepth 100000
namespace K14
open PySem PySem.Spec L2 QL
open PyProof.Rows hiding St cutD
/-! from A4 -/
section
variable {c : Nat} {r : List Cr} {S : Sto} {l : List Int} {x : Cr} {ρ : Rho}
abbrev metBody : Gx := (gSeq (gParK false false 6 7 (f2S dIx (fVar 2) (fVar 5)) (f2S dIx (fVar 2) (f2 dAdd (fVar 5) (fC (.int 1)))))
    (gSeq (gApp 3 (fIf (f2S dEqS (fVar 4) (fC (.str "left"))) (fTup true (fCons (fVarR 6) (fCons (fVarR 7) (fCons (fC (.int 1)) fNil)))) (fTup true (fCons (fVarR 7) (fCons (fVarR 6) (fCons (f1 dNeg (fC (.int 1))) fNil))))))
    (gAs (fTup true (fCons (fVarR 7) (fCons (fVarR 6) fNil))) (tfTup 2 (tfCons (tfSub 2 (fVar 5)) (tfCons (tfSub 2 (f2 dAdd (fVar 5) (fC (.int 1)))) tfNil))))))
theorem met_step (hc hx : D) (acc : List D) (a b : Sl) (hl : x.2 + 1 < l.length) (n : acc.length < 1000000) :
    metBody [.val hc, .val hx, .own (cordsD l), .own acc, .val (.str (sideS x.1)), .val (.int (x.2 : Nat)), a, b] S = .nx [.val hc, .val hx, .own (cordsD (swapL l x.2)), .own (acc ++ [metD (if x.1 = true then (l.getD x.2 0, l.getD (x.2 + 1) 0, true) else (l.getD (x.2 + 1) 0, l.getD x.2 0, false))]), .val (.str (sideS x.1)), .val (.int (x.2 : Nat)), .val (.int (l.getD x.2 0)), .val (.int (l.getD (x.2 + 1) 0))] S := by
  have a1 : (cordsD l)[x.2]? = some (.int (l.getD x.2 0)) := by unfold cordsD; rw [List.getElem?_map, (at_l hl).1]; rfl
  have a2 : (cordsD l)[x.2 + 1]? = some (.int (l.getD (x.2 + 1) 0)) := by unfold cordsD; rw [List.getElem?_map, (at_l hl).2]; rfl
  have len : (cordsD l).length = l.length := by unfold cordsD; rw [List.length_map]
  have hp1 : ∀ ρ' : Rho, ρ'[5]? = some (.val (.int (x.2 : Nat))) → f2 dAdd (fVar 5) (fC (.int 1)) ρ' S = .ok (.int ((x.2 : Nat) + 1)) S := fun ρ' h => f2_ok (fVar_val h) rfl rfl
  unfold metBody
  rw [gSeq_nx (ρ' := [.val hc, .val hx, .own (cordsD l), .own acc, .val (.str (sideS x.1)), .val (.int (x.2 : Nat)), .val (.int (l.getD x.2 0)), .val (.int (l.getD (x.2 + 1) 0))]) (gParK_ok (f2S_ok (fVar_own rfl) (fVar_val rfl) (dIx_at rfl rfl a1)) (f2S_ok (fVar_own rfl) (hp1 _ rfl) (dIx_at rfl (by omega) a2))),
    gSeq_nx (ρ' := [.val hc, .val hx, .own (cordsD l), .own (acc ++ [metD (if x.1 = true then (l.getD x.2 0, l.getD (x.2 + 1) 0, true) else (l.getD (x.2 + 1) 0, l.getD x.2 0, false))]), .val (.str (sideS x.1)), .val (.int (x.2 : Nat)), .val (.int (l.getD x.2 0)), .val (.int (l.getD (x.2 + 1) 0))]) (gApp_ok rfl (fIf_ok (is_left rfl)
      (fun h => by rw [if_pos h]; exact fTup_ok (cons3 (fVarR_val rfl) (fVarR_val rfl) rfl))
      (fun h => by rw [if_neg (by rw [h]; decide)]; exact fTup_ok (cons3 (fVarR_val rfl) (fVarR_val rfl) (f1_ok rfl rfl)))) n)]
  refine gAs_ok (fTup_ok (cons2 (fVarR_val rfl) (fVarR_val rfl))) ((tfTup2 (tfSub_own rfl (fVar_val rfl) rfl (by omega)) (tfSub_own (j := x.2 + 1) rfl (hp1 _ rfl) (by omega) (by rw [List.length_set]; omega))).trans ?_)
  rw [swap_l hl]
  unfold cordsD
  rw [List.map_set, List.map_set]
  rfl
theorem met_loop (hx : D) (hc : D) : ∀ (r : List Cr) (l : List Int) (acc : List D) (s t a b : Sl), (∀ x ∈ r, x.2 + 1 < l.length) → acc.length + r.length ≤ 1000000 → ∃ s' t' a' b',
    forG (tfOf (tnTup 2 (tnCons (tnName 4) (tnCons (tnName 5) tnNil)))) metBody
      (r.map crD) [.val hc, .val hx, .own (cordsD l), .own acc, s, t, a, b] S = .nx [.val hc, .val hx, .own (cordsD (lastF l r)), .own (acc ++ (metF l r).map metD), s', t', a', b'] S
  | [], l, acc, s, t, a, b, _, _ => ⟨s, t, a, b, congrArg (fun z => SRes.nx [.val hc, .val hx, .own (cordsD l), .own z, s, t, a, b] S) (List.append_nil acc).symm⟩
  | x :: r, l, acc, s, t, a, b, h, n => by
    have hl := h x List.mem_cons_self
    rw [List.length_cons] at n
    obtain ⟨s', t', a', b', ih⟩ := met_loop hx hc r (swapL l x.2) (acc ++ [metD (if x.1 = true then (l.getD x.2 0, l.getD (x.2 + 1) 0, true) else (l.getD (x.2 + 1) 0, l.getD x.2 0, false))]) (.val (.str (sideS x.1))) (.val (.int (x.2 : Nat))) (.val (.int (l.getD x.2 0))) (.val (.int (l.getD (x.2 + 1) 0))) (fun y hy => by rw [swapL_length]; exact h y (List.mem_cons_of_mem _ hy)) (by rw [List.length_append, List.length_singleton]; omega)
    refine ⟨s', t', a', b', ?_⟩
    rw [List.map_cons, forG_cons (ρ1 := [.val hc, .val hx, .own (cordsD l), .own acc, .val (.str (sideS x.1)), .val (.int (x.2 : Nat)), a, b]) rfl (met_step hc hx acc a b hl (by omega)), ih, metF, List.map_cons, List.append_assoc]
    rfl
theorem e_met_in (z : Bool) (h : RowOk c r) : F_met_in [.int c, rowD z r] S = .ok (.lst ((metF (rgI c) r).map metD)) S := by
  show fbR (g_met_in [.val (.int c), .val (rowD z r), .emp, .emp, .emp, .emp, .emp, .emp] S) = _
  obtain ⟨s', t', a', b', hl⟩ := met_loop (S := S) (rowD z r) (.int c) r (rgI c) [] .emp .emp .emp .emp h.fits (by have := h.2.2.1; simp; omega)
  unfold g_met_in
  rw [gSeq_nx (ρ' := [.val (.int c), .val (rowD z r), .own (cordsD (rgI c)), .emp, .emp, .emp, .emp, .emp]) (gSet_ok (list_rg S h.2.1 rfl)),
    gSeq_nx (ρ' := [.val (.int c), .val (rowD z r), .own (cordsD (rgI c)), .own [], .emp, .emp, .emp, .emp]) (gSet_ok (fLst_ok rfl)),
    gSeq_nx ((gFor_ok (ds := r.map crD) rfl).trans hl), gRetV_own rfl]
  rfl
theorem l_walk (z : Bool) (h : RowOk c r) : F_law_walk [.int c, rowD z r] S = .ok (.tup true [.lst ((metF (rgI c) r).map metD), ordD (lastF (rgI c) r)]) S := by
  show fbR (g_law_walk [.val (.int c), .val (rowD z r), .emp, .emp, .emp, .emp, .emp, .emp] S) = _
  obtain ⟨s', t', a', b', hl⟩ := met_loop (S := S) (rowD z r) (.int c) r (rgI c) [] .emp .emp .emp .emp h.fits (by have := h.2.2.1; simp; omega)
  unfold g_law_walk
  rw [gSeq_nx (ρ' := [.val (.int c), .val (rowD z r), .own (cordsD (rgI c)), .own [], .emp, .emp, .emp, .emp]) (gPar_ok (list_rg S h.2.1 rfl) (fLst_ok rfl)),
    gSeq_nx ((gFor_ok (ds := r.map crD) rfl).trans hl), gFrz_own rfl]
  rw [gRet_ok (fTup_ok (cons2 (fVarR_val rfl) (tup_ok (cons1 (fVar_own rfl)))))]
  rfl
end
/-! from A5 -/
section
variable {c : Nat} {r : List Cr} {S : Sto} {l : List Int} {x : Cr} {ρ : Rho} {d : D} {xs : List D} {f fl fh : Fx} {p : Nat}
theorem cut_to (h : p ≤ xs.length) : cutD xs none (some (p : Int)) = xs.take p := by
  unfold cutD
  rw [HT.sIx_none, HT.sIx_nat, List.drop_zero, Nat.sub_zero, Nat.min_eq_left h]
theorem cut_from (h : p ≤ xs.length) : cutD xs (some (p : Int)) none = xs.drop p := by
  unfold cutD
  rw [HT.sIx_none, HT.sIx_nat, Nat.min_eq_left h, List.take_of_length_le (by rw [List.length_drop]; omega)]
theorem sl_to (h : f ρ S = .ok (.lst xs) S) (hp : fh ρ S = .ok (.int p) S) (hl : p ≤ xs.length) : fSl f fNo (fI fh) ρ S = .ok (.lst (xs.take p)) S := by
  have e : dSl S (.lst xs) none (some (p : Int)) = some (.lst (xs.take p)) := by rw [← cut_to hl]; rfl
  unfold fSl fI fNo
  rw [h]
  simp only [Res.bind, fC, hp, oP, Option.bind]
  exact congrArg (fun z => lift z S) e
theorem sl_from (h : f ρ S = .ok (.lst xs) S) (hp : fl ρ S = .ok (.int p) S) (hl : p ≤ xs.length) : fSl f (fI fl) fNo ρ S = .ok (.lst (xs.drop p)) S := by
  have e : dSl S (.lst xs) (some (p : Int)) none = some (.lst (xs.drop p)) := by rw [← cut_from hl]; rfl
  unfold fSl fI fNo
  rw [h]
  simp only [Res.bind, fC, hp, oP, Option.bind]
  exact congrArg (fun z => lift z S) e
theorem d_addL {ys : List D} (h : xs.length + ys.length ≤ 1000000) : dAdd (.lst xs) (.lst ys) = some (.lst (xs ++ ys)) := by
  show (none : Option D).or ((none : Option D).or ((if xs.length + ys.length ≤ 1000000 then some (D.lst (xs ++ ys)) else none).or none)) = _
  rw [if_pos h]
  rfl
theorem cut_swap {α : Type} : ∀ (l : List α) (p : Nat) (a b : α), l[p]? = some a → l[p + 1]? = some b → (l.take p ++ [b, a]) ++ l.drop (p + 2) = (l.set p b).set (p + 1) a
  | [], p, a, b, h, _ => by rw [List.getElem?_nil] at h; cases h
  | [x], 0, a, b, _, h => by cases h
  | x :: y :: l, 0, a, b, h, h2 => by rfl
  | x :: l, p + 1, a, b, h, h2 => by
    have ih := cut_swap l p a b h h2
    rw [List.take_succ_cons, List.drop_succ_cons, List.set_cons_succ, List.set_cons_succ, ← ih]
    rfl
end
/-! from A6 -/
def goodY (k n : Nat) (y : PyData) : Prop := y.canLay0 = true ∧ y.showable = true ∧ y.depth ≤ k ∧ y.shown.length ≤ n
instance (k n : Nat) (y : PyData) : Decidable (goodY k n y) := inferInstanceAs (Decidable (_ ∧ _ ∧ _ ∧ _))
theorem goodY.up {k n k' n' : Nat} {y : PyData} (h : goodY k n y) (hk : k ≤ k') (hn : n ≤ n') : goodY k' n' y := ⟨h.1, h.2.1, Nat.le_trans h.2.2.1 hk, Nat.le_trans h.2.2.2 hn⟩
theorem good_all {k n : Nat} : ∀ (ys : List PyData), (∀ y ∈ ys, goodY k n y) → PyData.canLayAll0 ys = true ∧ PyData.showableAll ys = true ∧ PyData.depthAll ys ≤ k ∧ ((PyData.shownAll ys).map (·.length)).sum ≤ ys.length * n ∧ (PyData.shownAll ys).length = ys.length
  | [], _ => ⟨rfl, rfl, Nat.zero_le _, by simp [PyData.shownAll], rfl⟩
  | y :: ys, h => by
    have h1 := h y List.mem_cons_self
    have h2 := good_all ys fun z hz => h z (List.mem_cons_of_mem _ hz)
    refine ⟨?_, ?_, ?_, ?_, ?_⟩
    · simp only [PyData.canLayAll0, h1.1, h2.1, Bool.and_self]
    · simp only [PyData.showableAll, h1.2.1, h2.2.1, Bool.and_self]
    · simp only [PyData.depthAll]; have := h1.2.2.1; have := h2.2.2.1; omega
    · simp only [PyData.shownAll, List.map_cons, List.sum_cons, List.length_cons]
      have := h1.2.2.2; have := h2.2.2.2.1
      rw [Nat.add_mul]; omega
    · simp only [PyData.shownAll, List.length_cons, h2.2.2.2.2]
theorem good_tup {k n : Nat} {ys : List PyData} (h : ∀ y ∈ ys, goodY k n y) : goodY (k + 1) (ys.length * (n + 2) + 3) (.tuple ys) := by
  have a := good_all ys h
  refine ⟨?_, ?_, ?_, ?_⟩
  · simpa only [PyData.canLay0] using a.1
  · simpa only [PyData.showable] using a.2.1
  · simp only [PyData.depth]; have := a.2.2.1; omega
  · simp only [PyData.shown]
    have z := tupleText_len_le (PyData.shownAll ys)
    rw [a.2.2.2.2] at z
    have := a.2.2.2.1
    rw [Nat.mul_add]; omega
theorem good_lst {k n : Nat} {ys : List PyData} (h : ∀ y ∈ ys, goodY k n y) : goodY (k + 1) (ys.length * (n + 2) + 3) (.list ys) := by
  have a := good_all ys h
  refine ⟨?_, ?_, ?_, ?_⟩
  · simpa only [PyData.canLay0] using a.1
  · simpa only [PyData.showable] using a.2.1
  · simp only [PyData.depth]; have := a.2.2.1; omega
  · simp only [PyData.shown]
    have z := listText_len_le (PyData.shownAll ys)
    rw [a.2.2.2.2] at z
    have := a.2.2.2.1
    rw [Nat.mul_add]; omega
theorem repr_good {y : PyData} (h : goodY 20 1000000 y) : reprD y = some y.shown := by
  unfold reprD
  exact if_pos h
theorem fVar_sl {i : Nat} {d : D} {ρ : Rho} {S : Sto} (h : ρ[i]? = some (slOf d)) : fVar i ρ S = .ok d S := by
  cases d <;> first
    | exact fVar_val h
    | exact fVar_bor h
/-- _law_like of equal data -/
theorem like_ok {d e : D} {S : Sto} (h : goodY 20 1000000 (d.res S).py) (q : (e.res S).py = (d.res S).py) : F_law_like [d, e] S = .ok (.bl true) S := by
  have r1 : dRepr S [d] = some (.str (d.res S).py.shown) := by
    show (reprD (d.res S).py).map D.str = _
    rw [repr_good h]; rfl
  have r2 : dRepr S [e] = some (.str (d.res S).py.shown) := by
    show (reprD (e.res S).py).map D.str = _
    rw [q, repr_good h]; rfl
  have e0 : F_law_like [d, e] S = fbR (g_law_like [slOf d, slOf e] S) := rfl
  rw [e0]
  unfold g_law_like
  rw [gRet_ok (f2S_ok (fCall_ok (cons1 (fVar_sl rfl)) r1) (fCall_ok (cons1 (fVar_sl rfl)) r2) (d_eqS S _ _))]
  show Res.ok (.bl (decide ((d.res S).py.shown = (d.res S).py.shown))) S = _
  rw [decide_eq_true rfl]
/-- small numbers -/
theorem good_int : ∀ i : Fin 16, goodY 0 2 (.int ((i.val : Int) - 1)) := by decide +kernel
theorem good_side : ∀ b : Bool, goodY 0 7 (.str (sideS b)) := by decide +kernel
/-! from A7 -/
theorem pys_map : ∀ ds : List D, D.pys ds = ds.map D.py
  | [] => by unfold D.pys; rfl
  | d :: ds => by unfold D.pys; rw [List.map_cons, pys_map ds]
/-- a tuple, a list of n good things -/
theorem good_tupD {k m n : Nat} {z : Bool} {ds : List D} (h : ∀ d ∈ ds, goodY k m d.py) (l : ds.length ≤ n) : goodY (k + 1) (n * (m + 2) + 3) (D.py (.tup z ds)) := by
  have e : D.py (.tup z ds) = .tuple (D.pys ds) := by unfold D.py; rfl
  rw [e, pys_map]
  refine (good_tup (k := k) (n := m) fun y hy => ?_).up (Nat.le_refl _) ?_
  · obtain ⟨d, hd, rfl⟩ := List.mem_map.mp hy
    exact h d hd
  · rw [List.length_map]
    have := Nat.mul_le_mul_right (m + 2) l
    omega
theorem good_lstD {k m n : Nat} {ds : List D} (h : ∀ d ∈ ds, goodY k m d.py) (l : ds.length ≤ n) : goodY (k + 1) (n * (m + 2) + 3) (D.py (.lst ds)) := by
  have e : D.py (.lst ds) = .list (D.pys ds) := by unfold D.py; rfl
  rw [e, pys_map]
  refine (good_lst (k := k) (n := m) fun y hy => ?_).up (Nat.le_refl _) ?_
  · obtain ⟨d, hd, rfl⟩ := List.mem_map.mp hy
    exact h d hd
  · rw [List.length_map]
    have := Nat.mul_le_mul_right (m + 2) l
    omega
theorem good_int' {i : Int} (h : -1 ≤ i) (h2 : i ≤ 14) : goodY 0 2 (D.py (.int i)) := by
  have e : D.py (.int i) = .int i := by unfold D.py; rfl
  have := good_int ⟨(i + 1).toNat, by omega⟩
  have q : (((i + 1).toNat : Nat) : Int) - 1 = i := by omega
  rw [q] at this
  rw [e]; exact this
theorem good_side' (b : Bool) : goodY 0 7 (D.py (.str (sideS b))) := by
  have e : D.py (.str (sideS b)) = .str (sideS b) := by unfold D.py; rfl
  rw [e]; exact good_side b
theorem swap_perm : ∀ (l : List Int) (p : Nat), (swapL l p).Perm l
  | [], p => by unfold swapL; simp
  | [x], p => by
    unfold swapL
    cases p with
    | zero => simp
    | succ p => simp
  | x :: y :: l, 0 => List.Perm.swap x y l
  | x :: y :: l, p + 1 => by
    have ih := swap_perm (y :: l) p
    have e : swapL (x :: y :: l) (p + 1) = x :: swapL (y :: l) p := by
      unfold swapL
      simp only [List.getElem?_cons_succ]
      cases h1 : (y :: l)[p]? with
      | none => rfl
      | some a =>
        cases h2 : l[p]? with
        | none => rfl
        | some b => rfl
    rw [e]
    exact ih.cons x
theorem last_perm : ∀ (r : List Cr) (l : List Int), (lastF l r).Perm l
  | [], l => .refl l
  | x :: r, l => (last_perm r _).trans (swap_perm l x.2)
theorem met_len : ∀ (r : List Cr) (l : List Int), (metF l r).length = r.length
  | [], l => rfl
  | x :: r, l => by rw [metF, List.length_cons, List.length_cons, met_len r]
theorem rg_mem {c : Nat} {v : Int} : v ∈ rgI c ↔ 0 ≤ v ∧ v < c := by
  unfold rgI
  rw [List.mem_map]
  constructor
  · rintro ⟨i, hi, rfl⟩
    have := List.mem_range.mp hi
    omega
  · intro h
    exact ⟨v.toNat, List.mem_range.mpr (by omega), by omega⟩
theorem good_ord {c : Nat} {l : List Int} (hc : c ≤ 5) (h : l.Perm (rgI c)) : goodY 1 23 (D.py (ordD l)) := by
  unfold ordD
  refine good_tupD (k := 0) (m := 2) (n := 5) (fun d hd => ?_) ?_
  · unfold cordsD at hd
    obtain ⟨v, hv, rfl⟩ := List.mem_map.mp hd
    have := rg_mem.mp (h.mem_iff.mp hv)
    exact good_int' (by omega) (by omega)
  · unfold cordsD
    rw [List.length_map, h.length_eq, rg_len]
    exact hc
/-! from A9 -/
section
variable {c : Nat} {r : List Cr} {S : Sto} {l m : List Int} {x : Cr} {ρ : Rho} {v : Int}
theorem eqv_int (a b : Int) : PyData.eqv (.int a) (.int b) = decide (a = b) := by
  rfl
theorem lay_ints : ∀ l : List Int, PyData.canLayAll0 (D.pys (cordsD l)) = true
  | [] => by unfold cordsD; rw [List.map_nil]; unfold D.pys; rfl
  | v :: l => by
    have ih := lay_ints l
    unfold cordsD at ih ⊢
    rw [List.map_cons]
    unfold D.pys D.py PyData.canLayAll0 PyData.canLay0
    rw [ih]
    rfl
theorem py_int (v : Int) : D.py (.int v) = .int v := by unfold D.py; rfl
/-- the place of a cord in an order -/
def placeF (m : List Int) (v : Int) : Nat := (m.findIdx? fun z => decide (z = v)).getD 0
theorem ix_int (m : List Int) (v : Int) : ixOf (D.pys (cordsD m)) (D.py (.int v)) = m.findIdx? fun z => decide (z = v) := by
  unfold ixOf cordsD
  rw [pys_map, List.map_map, py_int, List.findIdx?_map]
  congr 1
theorem place_some (h : v ∈ m) : (m.findIdx? fun z => decide (z = v)) = some (placeF m v) ∧ m[placeF m v]? = some v := by
  cases e : m.findIdx? fun z => decide (z = v) with
  | none =>
    have := (List.findIdx?_eq_none_iff.mp e) v h
    simp at this
  | some j =>
    obtain ⟨hj, h1, _⟩ := List.findIdx?_eq_some_iff_getElem.mp e
    refine ⟨by unfold placeF; rw [e]; rfl, ?_⟩
    unfold placeF
    rw [e]
    show m[j]? = some v
    rw [List.getElem?_eq_getElem hj, of_decide_eq_true h1]
theorem st_index {fo fe : Fx} (ho : fo ρ S = .ok (ordD m) S) (he : fe ρ S = .ok (.int v) S) (h : v ∈ m) (l : m.length ≤ 1000000) : fIndex fo fe ρ S = .ok (.int (placeF m v : Nat)) S := by
  have sh : SeqAt.shaped (D.py (.int v)) = true := by rw [py_int]; rfl
  have len : (cordsD m).length ≤ 1000000 := by unfold cordsD; rw [List.length_map]; exact l
  have e : ixOf (D.pys (cordsD m)) (D.py (.int v)) = some (placeF m v) := (ix_int m v).trans (place_some h).1
  unfold fIndex
  rw [ho]
  show ((fe ρ S).bind fun e S' => if PyData.canLayAll0 (D.pys (cordsD m)) = true ∧ SeqAt.shaped (e.res S').py = true ∧ (cordsD m).length ≤ 1000000 then lift ((ixOf (D.pys (cordsD m)) (e.res S').py).map fun j => .int (j : Nat)) S' else .stuck) = _
  rw [he]
  show (if PyData.canLayAll0 (D.pys (cordsD m)) = true ∧ SeqAt.shaped (D.py (.int v)) = true ∧ (cordsD m).length ≤ 1000000 then lift ((ixOf (D.pys (cordsD m)) (D.py (.int v))).map fun j => .int (j : Nat)) S else .stuck) = _
  rw [if_pos ⟨lay_ints m, sh, len⟩, e]
  rfl
end
/-! from A12 -/
section
variable {c : Nat} {r : List Cr} {S : Sto} {l : List Int} {x : Cr} {ρ : Rho} {v i j : Int}
theorem gIfN {ft : Fx} {g1 : Gx} {S1 : Sto} (h : ft ρ S = .ok (.bl false) S1) : gIf ft g1 gNext ρ S = .nx ρ S1 := (gIf_f h).trans rfl
theorem eq_int (a b : Int) : dEqS S (.int a) (.int b) = some (.bl (decide (a = b))) := by rfl
end
/-! from A13 -/
theorem forG_inv {α : Type} {S : Sto} {tf : Tf} {g : Gx} (I : Rho → Prop) (enc : α → D) : ∀ (xs : List α) (ρ : Rho), (∀ x ∈ xs, ∀ ρ, I ρ → ∃ ρ1 ρ2, tf (enc x) ρ S = .nx ρ1 S ∧ g ρ1 S = .nx ρ2 S ∧ I ρ2) → I ρ → ∃ ρ', forG tf g (xs.map enc) ρ S = .nx ρ' S ∧ I ρ'
  | [], ρ, _, i => ⟨ρ, rfl, i⟩
  | x :: xs, ρ, h, i => by
    obtain ⟨ρ1, ρ2, h1, h2, i2⟩ := h x List.mem_cons_self ρ i
    obtain ⟨ρ', h3, i3⟩ := forG_inv I enc xs ρ2 (fun y hy => h y (List.mem_cons_of_mem _ hy)) i2
    exact ⟨ρ', by rw [List.map_cons, forG_cons h1 h2]; exact h3, i3⟩
theorem def0_fb {np n : Nat} {g : Gx} {ds : List D} {S : Sto} (h : ds.length = np) : def0 np n g ds S = fbR (g (rho0 n ds) S) := by
  unfold def0
  rw [if_pos h]
  unfold fbR
  cases g (rho0 n ds) S <;> rfl
theorem good_nat : ∀ i : Fin 64, goodY 0 2 (.int (i.val : Int)) := by decide +kernel
theorem good_nat' {n : Nat} (h : n < 64) : goodY 0 2 (D.py (.int (n : Nat))) := by
  rw [py_int]; exact good_nat ⟨n, h⟩
/-! from A14 -/
section
variable {c : Nat} {r : List Cr} {S : Sto} {l : List Int} {x : Cr} {ρ : Rho} {v i j : Int} {d e : D} {fa fb : Fx} {g : Gx}
theorem rg_for (h0 : ρ[0]? = some (.val (.int c))) (hc : c ≤ 5) : fRange1 (fCons (fVar 0) fNil) ρ S = .ok ((rgI c).map D.int) S := by
  have hb : -(2 ^ 62) ≤ (c : Int) ∧ (c : Int) < 2 ^ 62 := ⟨by omega, by omega⟩
  have e : rgD 0 (c : Int).toNat = (rgI c).map D.int := by
    unfold rgD rgI
    rw [List.map_map, Int.toNat_natCast]
    refine List.map_congr_left fun i _ => ?_
    show D.int (0 + (i : Int)) = D.int i
    rw [Int.zero_add]
  have q : rg1 [D.int (c : Int)] = some ((rgI c).map D.int) := by
    rw [rg1, if_pos hb, e]
  have e1 : fCons (fVar 0) fNil ρ S = .ok [.int c] S := cons1 (fVar_val h0)
  unfold fRange1
  rw [e1]
  show aOf (rg1 [D.int (c : Int)]) S = _
  rw [q]
  rfl
/-- if not like: nothing else -/
theorem st_like (ha : fa ρ S = .ok d S) (hb : fb ρ S = .ok e S) (h : goodY 20 1000000 (d.res S).py) (q : (e.res S).py = (d.res S).py) :
    gIf (fNot (fDef F_law_like (fCons fa (fCons fb fNil)))) g gNext ρ S = .nx ρ S := gIfN (fNot_ok ((fDef_ok (cons2 ha hb)).trans (like_ok h q)))
theorem cons4 {fa fb fd fe : Fx} {d e u w : D} {S1 S2 S3 S4 : Sto} (h : fa ρ S = .ok d S1) (h2 : fb ρ S1 = .ok e S2) (h3 : fd ρ S2 = .ok u S3) (h4 : fe ρ S3 = .ok w S4) : fCons fa (fCons fb (fCons fd (fCons fe fNil))) ρ S = .ok [d, e, u, w] S4 := fCons_ok h (cons3 h2 h3 h4)
theorem ne_int (a b : Int) : dNeS S (.int a) (.int b) = some (.bl !decide (a = b)) := by rfl
theorem good_intY {n : Nat} (h : n < 64) : goodY 20 1000000 ((D.res S (.int (n : Nat))).py) := (good_nat' h).up (by decide) (by decide)
end
/-! from A15 -/
section
variable {c : Nat} {r : List Cr} {S : Sto} {l : List Int} {x : Cr} {ρ : Rho} {v i j : Int} {d e : D} {fa fb : Fx} {g : Gx} {S1 : Sto}
theorem ixN_last (n : Nat) : ixN (n + 1) (-1) = some n := by
  unfold ixN
  rw [if_neg (by decide), if_pos (by omega)]
  congr 1
  omega
theorem dIx_last {xs : List D} {n : Nat} (hl : xs.length = n + 1) (h : xs[n]? = some d) : dIx S (.lst xs) (.int (-1)) = some d := by
  show atI xs (-1) = _
  unfold atI
  rw [hl, ixN_last]
  exact h
theorem neg1 : f1 dNeg (fC (.int 1)) ρ S = .ok (.int (-1)) S := rfl
theorem place_lt {m : List Int} (h : v ∈ m) : placeF m v < m.length := (List.getElem?_eq_some_iff.mp (place_some h).2).1
theorem getD_mem {l : List Int} {n : Nat} (h : n < l.length) : l.getD n 0 ∈ l := by
  rw [List.getD_eq_getElem?_getD, List.getElem?_eq_getElem h]
  exact List.getElem_mem h
theorem met_mem : ∀ (r : List Cr) (l : List Int), (∀ x ∈ r, x.2 + 1 < l.length) → ∀ m ∈ metF l r, m.1 ∈ l ∧ m.2.1 ∈ l
  | [], l, _, m, hm => nomatch hm
  | x :: r, l, h, m, hm => by
    have hl := h x List.mem_cons_self
    have a1 := getD_mem (l := l) (n := x.2) (by omega)
    have a2 := getD_mem hl
    rw [metF] at hm
    rcases List.mem_cons.mp hm with rfl | hm
    · by_cases b : x.1 = true
      · rw [if_pos b]; exact ⟨a1, a2⟩
      · rw [if_neg b]; exact ⟨a2, a1⟩
    · have p := swap_perm l x.2
      have := met_mem r (swapL l x.2) (fun y hy => by rw [swapL_length]; exact h y (List.mem_cons_of_mem _ hy)) m hm
      exact ⟨p.mem_iff.mp this.1, p.mem_iff.mp this.2⟩
end
/-! from A16 -/
section
variable {c : Nat} {r : List Cr} {S : Sto} {l : List Int} {x : Cr} {ρ : Rho} {v i j : Int}
theorem swap_swap {α : Type} : ∀ (l : List α) (p : Nat), swapL (swapL l p) p = l
  | [], p => by simp [swapL]
  | [x], p => by cases p <;> simp [swapL]
  | x :: y :: l, 0 => by simp [swapL]
  | x :: y :: l, p + 1 => by
    have ih := swap_swap (y :: l) p
    have e : ∀ m : List α, swapL (x :: m) (p + 1) = x :: swapL m p := fun m => by
      unfold swapL
      simp only [List.getElem?_cons_succ]
      cases h1 : m[p]? with
      | none => rfl
      | some a =>
        cases h2 : m[p + 1]? with
        | none => rfl
        | some b => rfl
    rw [e, e, ih]
theorem last_length (r : List Cr) (l : List Int) : (lastF l r).length = l.length := (last_perm r l).length_eq
theorem nodup_rg (c : Nat) : (rgI c).Nodup := by
  unfold rgI List.Nodup
  rw [List.pairwise_map]
  exact List.nodup_range.imp fun h h2 => h (by omega)
theorem place_at {m : List Int} (nd : m.Nodup) {n : Nat} {v : Int} (h : m[n]? = some v) : placeF m v = n := by
  have hv : v ∈ m := List.mem_of_getElem? h
  have h2 := (place_some hv).2
  exact (List.getElem?_inj (List.getElem?_eq_some_iff.mp h2).1 nd).mp (h2.trans h.symm)
theorem rg_get {n : Nat} (h : n < c) : (rgI c)[n]? = some (n : Int) := by
  unfold rgI
  rw [List.getElem?_map, List.getElem?_range h]
  rfl
/-! seen from the other end -/
theorem swap_get {l : List Int} {p n : Nat} (h : p + 1 < l.length) : (swapL l p)[n]? = if n = p then l[p + 1]? else if n = p + 1 then l[p]? else l[n]? := by
  rw [swapL_eq (List.getElem?_eq_getElem (by omega : p < l.length)) (List.getElem?_eq_getElem h)]
  by_cases h1 : n = p + 1
  · subst h1
    rw [List.getElem?_set_self (by rw [List.length_set]; omega), if_neg (by omega), if_pos rfl, List.getElem?_eq_getElem (by omega)]
  · rw [List.getElem?_set_ne (by omega)]
    by_cases h2 : n = p
    · subst h2
      rw [List.getElem?_set_self (by omega), if_pos rfl, List.getElem?_eq_getElem h]
    · rw [List.getElem?_set_ne (by omega), if_neg h2, if_neg h1]
/-! meetings -/
end
/-! from A17 -/
section
variable {c : Nat} {r : List Cr} {S : Sto} {l : List Int} {x : Cr} {ρ : Rho} {v i j : Int} {d e : D} {fa fb : Fx} {g : Gx} {S1 : Sto}
theorem good_cr (h : RowOk c r) (hx : x ∈ r) : goodY 1 21 (D.py (crD x)) := by
  unfold crD
  have h1 := h.2.2.2 x hx
  have h2 := h.2.1
  refine good_tupD (k := 0) (m := 7) (n := 2) (fun d hd => ?_) (by simp)
  rcases List.mem_cons.mp hd with rfl | hd
  · exact good_side' _
  rcases List.mem_cons.mp hd with rfl | hd
  · exact (good_nat' (by omega)).up (by decide) (by decide)
  · cases hd
theorem good_row (z : Bool) (h : RowOk c r) : goodY 2 1383 (D.py (rowD z r)) := by
  unfold rowD
  refine good_tupD (k := 1) (m := 21) (n := 60) (fun d hd => ?_) (by rw [List.length_map]; exact h.2.2.1)
  obtain ⟨x, hx, rfl⟩ := List.mem_map.mp hd
  exact good_cr h hx
theorem good_list2 {a b : D} {k n : Nat} (h1 : goodY k n a.py) (h2 : goodY k n b.py) : goodY (k + 1) (2 * (n + 2) + 3) (D.py (.lst [a, b])) := by
  refine good_lstD (k := k) (m := n) (n := 2) (fun d hd => ?_) (by simp)
  rcases List.mem_cons.mp hd with rfl | hd
  · exact h1
  rcases List.mem_cons.mp hd with rfl | hd
  · exact h2
  · cases hd
theorem RowOk.back (h : RowOk c r) : RowOk c (r.reverse.map K14.flip) := h.rev.flip
end
end K14

set_option Elab.async false
set_option linter.all false
set_option maxRecDepth 100000
namespace K14
open PySem PySem.Spec L2 QL
open PyProof.Rows hiding St cutD
/-! from A19 -/
section
variable {S : Sto} {ρ : Rho} {i j a n lim : Int} {d e : D} {fa fb : Fx} {g : Gx} {S1 : Sto} {cs gs : List Int} {T : Sto}
theorem mulI (h : (inW i || inW j) = true) : dMul (.int i) (.int j) = some (.int (i * j)) := by
  show (if (inW i || inW j) = true then some (D.int (i * j)) else none).or _ = _
  rw [if_pos h]
  rfl
theorem inW_r (h : -(2 ^ 63) < j) (h2 : j < 2 ^ 63) : (inW i || inW j) = true := by
  have : inW j = true := decide_eq_true ⟨by omega, by omega⟩
  rw [this, Bool.or_true]
theorem inW_l (h : -(2 ^ 63) < i) (h2 : i < 2 ^ 63) : (inW i || inW j) = true := by
  have : inW i = true := decide_eq_true ⟨by omega, by omega⟩
  rw [this, Bool.true_or]
theorem modI (h : j ≠ 0) : dMod (.int i) (.int j) = some (.int (i.fmod j)) := by
  show (if (j != 0) = true then some (D.int (i.fmod j)) else none) = _
  rw [if_pos (by simpa using h)]
theorem divI (h : j ≠ 0) (h2 : j.natAbs < 1073741824) : dDiv (.int i) (.int j) = some (.int (i.fdiv j)) := by
  show (if decide (j ≠ 0 ∧ j.natAbs < 1073741824) = true then some (D.int (i.fdiv j)) else none) = _
  rw [if_pos (decide_eq_true ⟨h, h2⟩)]
theorem addI : dAdd (.int i) (.int j) = some (.int (i + j)) := rfl
theorem subI : dSub (.int i) (.int j) = some (.int (i - j)) := rfl
theorem intI : dInt S [.int i] = some (.int i) := rfl
theorem kI (k : Int) : fC (.int k) ρ S = .ok (.int k) S := rfl
theorem fmod_at (i : Int) (h : 0 < j) : 0 ≤ i.fmod j ∧ i.fmod j < j := by
  rw [Int.fmod_eq_emod_of_nonneg _ (by omega)]
  exact ⟨Int.emod_nonneg _ (by omega), Int.emod_lt_of_pos _ h⟩
def mixV (a n : Int) : Int := ((((a * (1 + 2 * n) * 48271).fmod 2147483647 + 7919 * n * n + 104729 * n) * 69621).fmod 2147483629).fdiv 7
theorem e_mixed (h : 0 ≤ n) (h2 : n < 1000000) : F_law_mixed [.int a, .int n] S = .ok (.int (mixV a n)) S := by
  refine (def0_fb (by rfl)).trans ?_
  show fbR (g_law_mixed [.val (.int a), .val (.int n), .emp] S) = _
  have s1 := gSet_ok (i := 2) (ρ := [.val (.int a), .val (.int n), .emp]) (S := S) (f2_ok (f2_ok (f2_ok (fCall_ok (g := dInt) (cons1 (f2_ok (f2_ok (fVar_val (i := 0) rfl) (f2_ok (kI 1) (f2_ok (kI 2) (fVar_val (i := 1) rfl) (mulI (inW_l (by decide) (by decide)))) addI) (mulI (inW_r (by omega) (by omega)))) (kI 48271) (mulI (inW_r (by decide) (by decide))))) intI) (kI 2147483647) (modI (by decide)))
      (f2_ok (f2_ok (kI 7919) (fVar_val (i := 1) rfl) (mulI (inW_l (by decide) (by decide)))) (fVar_val (i := 1) rfl) (mulI (inW_r (by omega) (by omega)))) addI)
      (f2_ok (kI 104729) (fVar_val (i := 1) rfl) (mulI (inW_l (by decide) (by decide)))) addI)
  unfold g_law_mixed
  refine (congrArg fbR (gSeq_nx s1)).trans ?_
  refine (congrArg fbR (gRet_ok (f2_ok (f2_ok (fCall_ok (g := dInt) (cons1 (f2_ok (fVar_val (i := 2) rfl) (kI 69621) (mulI (inW_r (by decide) (by decide))))) intI) (kI 2147483629) (modI (by decide))) (kI 7) (divI (by decide) (by decide))))).trans ?_
  rfl
/-- the store while drawing -/
def stD (T : Sto) (cs gs : List Int) (n : Int) : Sto := .tab "need_row" :: .dct [(.inr "cells", .lst (cs.map .int)), (.inr "great", .ref 2), (.inr "spot", .int n)] :: .lst (gs.map .int) :: T
theorem st_tab : hasTab "need_row" (stD T cs gs n) = true := rfl
theorem get_spot : dGetK (stD T cs gs n) (.ref 1) (.str "spot") = some (.int n) := rfl
theorem get_great : dGetK (stD T cs gs n) (.ref 1) (.str "great") = some (.ref 2) := rfl
theorem get_cells : dGetK (stD T cs gs n) (.ref 1) (.str "cells") = some (.lst (cs.map .int)) := rfl
theorem kS (k : Str) : fC (.str k) ρ S = .ok (.str k) S := rfl
theorem put_spot {k : Int} (h : ρ[0]? = some (.val (.ref 1))) : tfSub 0 (fC (.str "spot")) (.int k) ρ (stD T cs gs n) = .nx ρ (stD T cs gs k) := by
  unfold tfSub
  rw [h]
  rfl
theorem tfSub_ref {i m : Nat} {fi : Fx} {k : D} {o o' : MO} (h0 : ρ[i]? = some (.val (.ref m))) (h : fi ρ S = .ok k S) (ho : S[m]? = some o) (hm : moSet o k d = some o') : tfSub i fi d ρ S = .nx ρ (S.set m o') := by
  unfold tfSub
  rw [h0]
  simp only [h, thenG, ho, Option.bind_some, hm]
theorem good_shaped {k n : Nat} {y : PyData} (h : goodY k n y) (hk : k ≤ 64) : SeqAt.shaped y = true := by
  unfold SeqAt.shaped
  rw [h.1, decide_eq_true (Nat.le_trans h.2.2.1 hk)]
  rfl
theorem depth_ints : ∀ l : List Int, PyData.depthAll (D.pys (cordsD l)) = 0
  | [] => by unfold cordsD; rw [List.map_nil]; unfold D.pys; rfl
  | v :: l => by
    have ih := depth_ints l
    unfold cordsD at ih ⊢
    rw [List.map_cons]
    unfold D.pys D.py PyData.depthAll PyData.depth
    rw [ih]
    rfl
theorem ints_shaped (l : List Int) : SeqAt.shaped (D.py (.lst (cordsD l))) = true := by
  unfold SeqAt.shaped D.py PyData.canLay0 PyData.depth
  rw [lay_ints, depth_ints]
  rfl
theorem nil_shaped : SeqAt.shaped (D.py (.lst [])) = true := by decide +kernel
theorem ne_nil {xs : List D} (h : SeqAt.shaped (D.py (.lst xs)) = true) : dEqB (.lst xs) (.lst []) = some xs.isEmpty := by
  show (if SeqAt.shaped (D.py (.lst xs)) = true ∧ SeqAt.shaped (D.py (.lst [])) = true then some (PyData.eqv (D.py (.lst xs)) (D.py (.lst []))) else none) = _
  rw [if_pos ⟨h, nil_shaped⟩]
  cases xs with
  | nil => decide +kernel
  | cons x xs =>
    unfold D.py D.pys
    rfl
abbrev restDraw : Gx := (gSeq (gSetR 3 (f2S dGetK (fVar 0) (fC (.str "cells"))))
    (gRet (f2 dMod (fCall dInt (fCons (fDef F_law_mixed (fCons (fDef F_law_mixed (fCons (f2 dAdd (f2S dIx (fVar 3) (f2 dMod (fCall dInt (fCons (fVar 2) fNil)) (fC (.int 64)))) (f2 dMul (fC (.int 31)) (f2 dDiv (fVar 2) (fC (.int 64))))) (fCons (fVar 2) fNil))) (fCons (f2 dAdd (fVar 2) (fC (.int 7))) fNil))) fNil)) (fVar 1))))
theorem rest_draw (hc : cs.length = 64) (hn : 0 ≤ n) (hn2 : n < 100000) (h1 : 1 ≤ lim) {m : Int} (x3 x4 x5 : Sl) : ∃ v, 0 ≤ v ∧ v < lim ∧ restDraw [.val (.ref 1), .val (.int lim), .val (.int n), x3, x4, x5] (stD T cs gs m) = .ret (.int v) (stD T cs gs m) := by
  have hm := fmod_at n (show (0 : Int) < 64 by decide)
  have s1 := gSetR_ok (i := 3) (f2S_ok (ρ := [.val (.ref 1), .val (.int lim), .val (.int n), x3, x4, x5]) (S := stD T cs gs m) (fVar_val (i := 0) rfl) (kS "cells") get_cells)
  refine ⟨(mixV (mixV (cs.getD (n.fmod 64).toNat 0 + 31 * n.fdiv 64) n) (n + 7)).fmod lim, (fmod_at _ (by omega)).1, (fmod_at _ (by omega)).2, (gSeq_nx s1).trans (gRet_ok ?_)⟩
  · refine f2_ok (fCall_ok (g := dInt) (cons1 ((fDef_ok (cons2 ((fDef_ok (cons2 (f2_ok (f2S_ok (fVar_val (i := 3) rfl) (f2_ok (fCall_ok (g := dInt) (cons1 (fVar_val (i := 2) rfl)) intI) (kI 64) (modI (by decide))) (dIx_at (xs := cs.map .int) (j := (n.fmod 64).toNat) (d := .int (cs.getD (n.fmod 64).toNat 0)) rfl (by omega) ?_)) (f2_ok (kI 31) (f2_ok (fVar_val (i := 2) rfl) (kI 64) (divI (by decide) (by decide))) (mulI (inW_l (by decide) (by decide)))) addI) (fVar_val (i := 2) rfl))).trans (e_mixed hn (by omega))) (f2_ok (fVar_val (i := 2) rfl) (kI 7) addI))).trans (e_mixed (by omega) (by omega)))) intI) (fVar_val (i := 1) rfl) (modI (by omega))
    rw [List.getElem?_map, List.getD_eq_getElem?_getD, List.getElem?_eq_getElem (by omega)]
    rfl
theorem e_draw (hc : cs.length = 64) (hn : 0 ≤ n) (hn2 : n < 100000) (h1 : 1 ≤ lim) (h2 : lim < 100000) : ∃ v gs', 0 ≤ v ∧ v < lim ∧ F_law_draw [.ref 1, .int lim] (stD T cs gs n) = .ok (.int v) (stD T cs gs' (n + 1)) := by
  have s1 := gSetR_ok (i := 2) (f2S_ok (ρ := [.val (.ref 1), .val (.int lim), .emp, .emp, .emp, .emp]) (S := stD T cs gs n) (fVar_val (i := 0) rfl) (kS "spot") get_spot)
  have s2 : gAs (f2 dAdd (fVar 2) (fC (.int 1))) (tfSub 0 (fC (.str "spot"))) [.val (.ref 1), .val (.int lim), .val (.int n), .emp, .emp, .emp] (stD T cs gs n) = .nx [.val (.ref 1), .val (.int lim), .val (.int n), .emp, .emp, .emp] (stD T cs gs (n + 1)) :=
    gAs_ok (f2_ok (fVar_val rfl) (kI 1) addI) (put_spot rfl)
  have tst : f2S dNeS (f2S dGetK (fVar 0) (fC (.str "great"))) (fLst fNil) [.val (.ref 1), .val (.int lim), .val (.int n), .emp, .emp, .emp] (stD T cs gs (n + 1)) = .ok (.bl !(cordsD gs).isEmpty) (stD T cs gs (n + 1)) := by
    refine f2S_ok (f2S_ok (fVar_val rfl) (kS "great") get_great) (fLst_ok (ds := []) rfl) ?_
    show (dEqB (.lst (cordsD gs)) (.lst [])).map (fun b => D.bl !b) = _
    rw [ne_nil (ints_shaped gs)]
    rfl
  have e0 : F_law_draw [.ref 1, .int lim] (stD T cs gs n) = fbR (g_law_draw [.val (.ref 1), .val (.int lim), .emp, .emp, .emp, .emp] (stD T cs gs n)) := (def0_fb (by rfl)).trans rfl
  rw [e0]
  unfold g_law_draw
  by_cases hg : gs = []
  · subst hg
    obtain ⟨v, v0, v1, hv⟩ := rest_draw (T := T) (gs := []) hc hn hn2 h1 (m := n + 1) .emp .emp .emp
    refine ⟨v, [], v0, v1, ?_⟩
    refine (congrArg fbR (gSeq_nx s1)).trans ?_
    refine (congrArg fbR (gSeq_nx s2)).trans ?_
    refine (congrArg fbR (gSeq_nx (gIfN tst))).trans ?_
    exact congrArg fbR hv
  · have hl : 0 < gs.length := List.length_pos_iff.mpr hg
    have hm := fmod_at n (show (0 : Int) < (gs.length : Int) by omega)
    have ne : (!(cordsD gs).isEmpty) = true := by
      cases gs with
      | nil => exact absurd rfl hg
      | cons a l => rfl
    rw [ne] at tst
    let k := (n.fmod (gs.length : Int)).toNat
    have hk : k < gs.length := by show (n.fmod (gs.length : Int)).toNat < _; omega
    have hk2 : n.fmod (gs.length : Int) = (k : Int) := by show _ = ((n.fmod (gs.length : Int)).toNat : Int); omega
    have t1 := gSetR_ok (i := 3) (f2S_ok (ρ := [.val (.ref 1), .val (.int lim), .val (.int n), .emp, .emp, .emp]) (S := stD T cs gs (n + 1)) (fVar_val (i := 0) rfl) (kS "great") get_great)
    have dl : dLen (stD T cs gs (n + 1)) [.ref 2] = some (.int gs.length) := by
      show some (D.int ((gs.map D.int).length : Nat)) = _
      rw [List.length_map]
    have t2 := gSet_ok (i := 4) (f2_ok (ρ := [.val (.ref 1), .val (.int lim), .val (.int n), .val (.ref 2), .emp, .emp]) (S := stD T cs gs (n + 1)) (fCall_ok (g := dInt) (cons1 (fVar_val (i := 2) rfl)) intI) (fCall_ok (cons1 (fVar_val (i := 3) rfl)) dl) (modI (by omega)))
    have gk : (gs.map D.int)[k]? = some (.int (gs.getD k 0)) := by
      rw [List.getElem?_map, List.getD_eq_getElem?_getD, List.getElem?_eq_getElem hk]
      rfl
    have ix : dIx (stD T cs gs (n + 1)) (.ref 2) (.int (n.fmod (gs.length : Int))) = some (.int (gs.getD k 0)) := by
      show atI (gs.map D.int) (n.fmod (gs.length : Int)) = _
      rw [hk2]
      exact atI_nat gk
    have t3 := gSetR_ok (i := 5) (f2S_ok (ρ := [.val (.ref 1), .val (.int lim), .val (.int n), .val (.ref 2), .val (.int (n.fmod (gs.length : Int))), .emp]) (S := stD T cs gs (n + 1)) (fVar_val (i := 3) rfl) (fVar_val (i := 4) rfl) ix)
    have t4 : f2 dGtI (fVar 5) (fC (.int 0)) [.val (.ref 1), .val (.int lim), .val (.int n), .val (.ref 2), .val (.int (n.fmod (gs.length : Int))), .val (.int (gs.getD k 0))] (stD T cs gs (n + 1)) = .ok (.bl (decide (0 < gs.getD k 0))) (stD T cs gs (n + 1)) := f2_ok (fVar_val rfl) (kI 0) rfl
    by_cases hp : 0 < gs.getD k 0
    · rw [decide_eq_true hp] at t4
      have t5 : gAs (f2 dDiv (fVar 5) (fVar 1)) (tfSub 3 (fVar 4)) [.val (.ref 1), .val (.int lim), .val (.int n), .val (.ref 2), .val (.int (n.fmod (gs.length : Int))), .val (.int (gs.getD k 0))] (stD T cs gs (n + 1)) = .nx [.val (.ref 1), .val (.int lim), .val (.int n), .val (.ref 2), .val (.int (n.fmod (gs.length : Int))), .val (.int (gs.getD k 0))] (stD T cs (gs.set k ((gs.getD k 0).fdiv lim)) (n + 1)) := by
        refine gAs_ok (f2_ok (fVar_val rfl) (fVar_val rfl) (divI (by omega) (by omega))) ?_
        have ms : moSet (.lst (gs.map D.int)) (.int (n.fmod (gs.length : Int))) (.int ((gs.getD k 0).fdiv lim)) = some (.lst ((gs.map D.int).set k (.int ((gs.getD k 0).fdiv lim)))) := moSet_at hk2 (by rw [List.length_map]; exact hk)
        refine (tfSub_ref (m := 2) (o := .lst (gs.map D.int)) rfl (fVar_val rfl) rfl ms).trans ?_
        rw [← List.map_set]
        rfl
      refine ⟨(gs.getD k 0).fmod lim, gs.set k ((gs.getD k 0).fdiv lim), (fmod_at _ (by omega)).1, (fmod_at _ (by omega)).2, ?_⟩
      refine (congrArg fbR (gSeq_nx s1)).trans ?_
      refine (congrArg fbR (gSeq_nx s2)).trans ?_
      refine (congrArg fbR (gSeq_ret (d := .int ((gs.getD k 0).fmod lim)) (S1 := stD T cs (gs.set k ((gs.getD k 0).fdiv lim)) (n + 1)) ?_)).trans rfl
      refine (gIf_t tst).trans ((gSeq_nx t1).trans ((gSeq_nx t2).trans ((gSeq_nx t3).trans ((gIf_t t4).trans ((gSeq_nx t5).trans (gRet_ok (f2_ok (fCall_ok (g := dInt) (cons1 (fVar_val (i := 5) rfl)) intI) (fVar_val (i := 1) rfl) (modI (by omega)))))))))
    · rw [decide_eq_false hp] at t4
      obtain ⟨v, v0, v1, hv⟩ := rest_draw (T := T) (gs := gs) hc hn hn2 h1 (m := n + 1) (.val (.ref 2)) (.val (.int (n.fmod (gs.length : Int)))) (.val (.int (gs.getD k 0)))
      refine ⟨v, gs, v0, v1, ?_⟩
      refine (congrArg fbR (gSeq_nx s1)).trans ?_
      refine (congrArg fbR (gSeq_nx s2)).trans ?_
      refine (congrArg fbR (gSeq_nx ((gIf_t tst).trans ((gSeq_nx t1).trans ((gSeq_nx t2).trans ((gSeq_nx t3).trans (gIfN t4))))))).trans ?_
      exact congrArg fbR hv
end
/-! from A20 -/
section
variable {S : Sto} {ρ : Rho} {i j a n lim : Int} {d e : D} {fa fb : Fx} {g : Gx} {S1 : Sto} {cs gs : List Int} {T : Sto} {c : Nat}
def sidesD : List D := [.str "left", .str "right"]
theorem e_of (hc : cs.length = 64) (hn : 0 ≤ n) (hn2 : n < 100000) : ∃ b gs', F_law_of [.ref 1, .lst sidesD] (stD T cs gs n) = .ok (.str (sideS b)) (stD T cs gs' (n + 1)) := by
  obtain ⟨v, gs', v0, v1, hv⟩ := e_draw (T := T) (gs := gs) (lim := 2) hc hn hn2 (by decide) (by decide)
  have e0 : F_law_of [.ref 1, .lst sidesD] (stD T cs gs n) = fbR (g_law_of [.val (.ref 1), .bor sidesD] (stD T cs gs n)) := (def0_fb (by rfl)).trans rfl
  have dl : dLen (stD T cs gs n) [.lst sidesD] = some (.int 2) := rfl
  have key : ∀ b : Bool, dIx (stD T cs gs' (n + 1)) (.lst sidesD) (.int v) = some (.str (sideS b)) → F_law_of [.ref 1, .lst sidesD] (stD T cs gs n) = .ok (.str (sideS b)) (stD T cs gs' (n + 1)) := fun b hb => by
    rw [e0]
    unfold g_law_of
    rw [gRet_ok (fNl_ok (f2S_ok (fVar_bor (i := 1) rfl) ((fDef_ok (cons2 (fVar_val (i := 0) rfl) (fCall_ok (cons1 (fVar_bor (i := 1) rfl)) dl))).trans hv) hb) rfl)]
    rfl
  rcases (show v = 0 ∨ v = 1 by omega) with rfl | rfl
  · exact ⟨true, gs', key true rfl⟩
  · exact ⟨false, gs', key false rfl⟩
theorem forG_invN {α : Type} {tf : Tf} {g : Gx} (I : Nat → Rho → Sto → Prop) (enc : α → D) : ∀ (xs : List α) (k : Nat) (ρ : Rho) (S : Sto), (∀ x ∈ xs, ∀ j ρ S, j < k + xs.length → I j ρ S → ∃ ρ1 ρ2 S2, tf (enc x) ρ S = .nx ρ1 S ∧ g ρ1 S = .nx ρ2 S2 ∧ I (j + 1) ρ2 S2) → I k ρ S → ∃ ρ' S', forG tf g (xs.map enc) ρ S = .nx ρ' S' ∧ I (k + xs.length) ρ' S'
  | [], k, ρ, S, _, i => ⟨ρ, S, rfl, i⟩
  | x :: xs, k, ρ, S, h, i => by
    obtain ⟨ρ1, ρ2, S2, h1, h2, i2⟩ := h x List.mem_cons_self k ρ S (by rw [List.length_cons]; omega) i
    obtain ⟨ρ', S', h3, i3⟩ := forG_invN I enc xs (k + 1) ρ2 S2 (fun y hy j ρ S hj => h y (List.mem_cons_of_mem _ hy) j ρ S (by rw [List.length_cons]; omega)) i2
    refine ⟨ρ', S', by rw [List.map_cons, forG_cons h1 h2]; exact h3, ?_⟩
    rw [List.length_cons]
    have : k + (xs.length + 1) = k + 1 + xs.length := by omega
    rw [this]
    exact i3
abbrev rowBody : Gx := (gSeq (gPar 5 6 (fDef F_law_of (fCons (fVar 0) (fCons (fLst (fCons (fC (.str "left")) (fCons (fC (.str "right")) fNil))) fNil))) (fDef F_law_draw (fCons (fVar 0) (fCons (f2 dSub (fVar 1) (fC (.int 1))) fNil))))
    (gSeq (gIf (fAnd (f2S dNeS (fVar 3) (fLst fNil)) (f2S dEqS (fDef F_law_draw (fCons (fVar 0) (fCons (fC (.int 5)) fNil))) (fC (.int 0))))
    (gParK true false 5 6 (fIf (f2S dEqS (f2S dIx (f2S dIx (fVar 3) (f1 dNeg (fC (.int 1)))) (fC (.int 0))) (fC (.str "right"))) (fC (.str "left")) (fC (.str "right"))) (f2S dIx (f2S dIx (fVar 3) (f1 dNeg (fC (.int 1)))) (fC (.int 1))))
    gNext)
    (gApp 3 (fTup true (fCons (fVarR 5) (fCons (fVarR 6) fNil))))))
theorem eqI (a b : Int) : dEqS S (.int a) (.int b) = some (.bl (decide (a = b))) := by rfl
/-- a crossing that fits -/
def Fit (c : Nat) (r : List Cr) : Prop := ∀ x ∈ r, x.2 + 2 ≤ c
theorem row_step (hc : cs.length = 64) (hn : 0 ≤ n) (hn2 : n < 90000) (c1 : 2 ≤ c) (c2 : c ≤ 5) (most : D) {r : List Cr} (hr : Fit c r) (hl : r.length ≤ 50) (t s p : Sl) : ∃ x : Cr, x.2 + 2 ≤ c ∧ ∃ s' p' n' gs', n < n' ∧ n' ≤ n + 3 ∧
    rowBody [.val (.ref 1), .val (.int c), .val most, .own (r.map crD), t, s, p] (stD T cs gs n) = .nx [.val (.ref 1), .val (.int c), .val most, .own ((r ++ [x]).map crD), t, s', p'] (stD T cs gs' n') := by
  obtain ⟨b, g1, h1⟩ := e_of (T := T) (gs := gs) hc hn (by omega)
  obtain ⟨v, g2, v0, v1, h2⟩ := e_draw (T := T) (gs := g1) (lim := (c : Int) - 1) (n := n + 1) hc (by omega) (by omega) (by omega) (by omega)
  obtain ⟨q, hq⟩ : ∃ q : Nat, v = (q : Int) := ⟨v.toNat, by omega⟩
  subst hq
  have s1 := gPar_ok (i := 5) (j := 6) (ρ := [.val (.ref 1), .val (.int c), .val most, .own (r.map crD), t, s, p]) ((fDef_ok (F := F_law_of) (cons2 (fVar_val (i := 0) rfl) (fLst_ok (ds := sidesD) (cons2 (kS "left") (kS "right")) (by show 2 ≤ 1000000; decide)))).trans h1) ((fDef_ok (cons2 (fVar_val (i := 0) rfl) (f2_ok (fVar_val (i := 1) rfl) (kI 1) subI))).trans h2)
  have app : ∀ (x : Cr) (S : Sto), gApp 3 (fTup true (fCons (fVarR 5) (fCons (fVarR 6) fNil))) [.val (.ref 1), .val (.int c), .val most, .own (r.map crD), t, .val (.str (sideS x.1)), .val (.int (x.2 : Nat))] S = .nx [.val (.ref 1), .val (.int c), .val most, .own ((r ++ [x]).map crD), t, .val (.str (sideS x.1)), .val (.int (x.2 : Nat))] S := fun x S => by
    refine (gApp_ok rfl (fTup_ok (cons2 (fVarR_val rfl) (fVarR_val rfl))) (by rw [List.length_map]; omega)).trans ?_
    rw [List.map_append]
    rfl
  have shp : SeqAt.shaped (D.py (.lst (r.map crD))) = true := by
    refine good_shaped (k := 2) (n := 50 * 23 + 3) (good_lstD (k := 1) (m := 21) (n := 50) (fun d hd => ?_) (by rw [List.length_map]; exact hl)) (by decide)
    obtain ⟨x, hx, rfl⟩ := List.mem_map.mp hd
    exact good_cr (c := c) (r := [x]) ⟨c1, c2, by simp, fun y hy => by rw [List.mem_singleton.mp hy]; exact hr x hx⟩ (List.mem_singleton.mpr rfl)
  have tst : ∀ S, f2S dNeS (fVar 3) (fLst fNil) [.val (.ref 1), .val (.int c), .val most, .own (r.map crD), t, .val (.str (sideS b)), .val (.int (q : Nat))] S = .ok (.bl !(r.map crD).isEmpty) S := fun S => by
    refine f2S_ok (fVar_own rfl) (fLst_ok (ds := []) rfl) ?_
    show (dEqB (.lst (r.map crD)) (.lst [])).map (fun b => D.bl !b) = _
    rw [ne_nil shp]
    rfl
  by_cases hr0 : r = []
  · subst hr0
    refine ⟨(b, q), by show q + 2 ≤ c; omega, .val (.str (sideS b)), .val (.int (q : Nat)), n + 1 + 1, g2, by omega, by omega, ?_⟩
    refine (gSeq_nx s1).trans ((gSeq_nx (gIfN ?_)).trans (app (b, q) _))
    exact fAnd_f (tst _)
  · have ne : (!(r.map crD).isEmpty) = true := by
      cases r with
      | nil => exact absurd rfl hr0
      | cons a l => rfl
    rw [ne] at tst
    obtain ⟨w, g3, w0, w1, h3⟩ := e_draw (T := T) (gs := g2) (lim := 5) (n := n + 1 + 1) hc (by omega) (by omega) (by decide) (by decide)
    have tt : fAnd (f2S dNeS (fVar 3) (fLst fNil)) (f2S dEqS (fDef F_law_draw (fCons (fVar 0) (fCons (fC (.int 5)) fNil))) (fC (.int 0))) [.val (.ref 1), .val (.int c), .val most, .own (r.map crD), t, .val (.str (sideS b)), .val (.int (q : Nat))] (stD T cs g2 (n + 1 + 1)) = .ok (.bl (decide (w = 0))) (stD T cs g3 (n + 1 + 1 + 1)) :=
      (fAnd_t (tst _)).trans (f2S_ok ((fDef_ok (cons2 (fVar_val rfl) (kI 5))).trans h3) (kI 0) (eqI _ _))
    by_cases hw : w = 0
    · rw [decide_eq_true hw] at tt
      obtain ⟨r', x, rfl⟩ : ∃ r' x, r = r' ++ [x] := ⟨r.dropLast, r.getLast hr0, (List.dropLast_concat_getLast hr0).symm⟩
      have hx := hr x (by simp)
      have last : ∀ S, dIx S (.lst ((r' ++ [x]).map crD)) (.int (-1)) = some (crD x) := fun S => by
        rw [List.map_append]
        exact atI_last _ _
      have s2 := gParK_ok (ka := true) (kb := false) (i := 5) (j := 6) (S := stD T cs g3 (n + 1 + 1 + 1)) (S1 := stD T cs g3 (n + 1 + 1 + 1)) (S2 := stD T cs g3 (n + 1 + 1 + 1)) (d := .str (sideS !x.1)) (e := .int (x.2 : Nat)) (ρ := [.val (.ref 1), .val (.int c), .val most, .own ((r' ++ [x]).map crD), t, .val (.str (sideS b)), .val (.int (q : Nat))]) (fa := fIf (f2S dEqS (f2S dIx (f2S dIx (fVar 3) (f1 dNeg (fC (.int 1)))) (fC (.int 0))) (fC (.str "right"))) (fC (.str "left")) (fC (.str "right"))) (fb := f2S dIx (f2S dIx (fVar 3) (f1 dNeg (fC (.int 1)))) (fC (.int 1)))
        (by
          have te := f2S_ok (g := dEqS) (f2S_ok (f2S_ok (S := stD T cs g3 (n + 1 + 1 + 1)) (ρ := [.val (.ref 1), .val (.int c), .val most, .own ((r' ++ [x]).map crD), t, .val (.str (sideS b)), .val (.int (q : Nat))]) (fVar_own (i := 3) rfl) neg1 (last _)) (kI 0) (dIx_at (j := 0) (d := .str (sideS x.1)) rfl rfl rfl)) (kS "right") (d_eqS _ _ _)
          rw [side_right] at te
          exact fIf_ok te (fun h => by have : x.1 = false := by simpa using h
                                       rw [this]; rfl) fun h => by have : x.1 = true := by simpa using h
                                                                   rw [this]; rfl)
        (f2S_ok (f2S_ok (fVar_own rfl) neg1 (last _)) (kI 1) (dIx_at (j := 1) (d := .int (x.2 : Nat)) rfl rfl rfl))
      refine ⟨(!x.1, x.2), hx, .val (.str (sideS !x.1)), .val (.int (x.2 : Nat)), n + 1 + 1 + 1, g3, by omega, by omega, ?_⟩
      refine (gSeq_nx s1).trans ((gSeq_nx ((gIf_t tt).trans s2)).trans (app (!x.1, x.2) _))
    · rw [decide_eq_false hw] at tt
      refine ⟨(b, q), by show q + 2 ≤ c; omega, .val (.str (sideS b)), .val (.int (q : Nat)), n + 1 + 1 + 1, g3, by omega, by omega, ?_⟩
      exact (gSeq_nx s1).trans ((gSeq_nx (gIfN tt)).trans (app (b, q) _))
theorem rg_ints (hi : 0 ≤ i) (hi2 : i < 1000) : rg1 [.int i] = some ((rgI i.toNat).map D.int) := by
  have hb : -(2 ^ 62) ≤ i ∧ i < 2 ^ 62 := ⟨by omega, by omega⟩
  have e : rgD 0 i.toNat = (rgI i.toNat).map D.int := by
    unfold rgD rgI
    rw [List.map_map]
    refine List.map_congr_left fun i _ => ?_
    show D.int (0 + (i : Int)) = D.int i
    rw [Int.zero_add]
  rw [rg1, if_pos hb, e]
theorem e_lawrow (hc : cs.length = 64) (hn : 0 ≤ n) (hn2 : n < 80000) (c1 : 2 ≤ c) (c2 : c ≤ 5) {mo : Nat} (hmo : mo ≤ 20) : ∃ r n' gs', Fit c r ∧ r.length ≤ mo ∧ n ≤ n' ∧ n' ≤ n + 61 ∧ F_law_row [.ref 1, .int c, .int mo] (stD T cs gs n) = .ok (rowD true r) (stD T cs gs' n') := by
  obtain ⟨v, g1, v0, v1, h1⟩ := e_draw (T := T) (gs := gs) (lim := (mo : Int) + 1) hc hn (by omega) (by omega) (by omega)
  have fi : fRange1 (fCons (fDef F_law_draw (fCons (fVar 0) (fCons (f2 dAdd (fVar 2) (fC (.int 1))) fNil))) fNil) [.val (.ref 1), .val (.int c), .val (.int mo), .own [], .emp, .emp, .emp] (stD T cs gs n) = .ok ((rgI v.toNat).map D.int) (stD T cs g1 (n + 1)) := by
    unfold fRange1
    rw [cons1 ((fDef_ok (cons2 (fVar_val (i := 0) rfl) (f2_ok (fVar_val (i := 2) rfl) (kI 1) addI))).trans h1)]
    show aOf (rg1 [.int v]) _ = _
    rw [rg_ints v0 (by omega)]
    rfl
  obtain ⟨ρ', S', h2, r, t, s, p, n', gs', rfl, rfl, hr, hl, hn1, hn3⟩ := forG_invN (tf := tfOf (tnName 4)) (g := rowBody) (fun k ρ S => ∃ r t s p n' gs', ρ = [.val (.ref 1), .val (.int c), .val (.int mo), .own (r.map crD), t, s, p] ∧ S = stD T cs gs' n' ∧ Fit c r ∧ r.length = k ∧ n ≤ n' ∧ n' ≤ n + 1 + 3 * (k : Int)) D.int (rgI v.toNat) 0 [.val (.ref 1), .val (.int c), .val (.int mo), .own [], .emp, .emp, .emp] (stD T cs g1 (n + 1))
    (fun x hx j ρ S hj ⟨r, t, s, p, n', gs', hρ, hS, hr, hl, hn1, hn3⟩ => by
      subst hρ hS
      rw [rg_len] at hj
      obtain ⟨y, hy, s', p', n2, g2, m1, m2, hs⟩ := row_step (T := T) (gs := gs') hc (show 0 ≤ n' by omega) (by omega) c1 c2 (.int (mo : Nat)) hr (by omega) (.val (.int x)) s p
      refine ⟨_, _, _, rfl, hs, r ++ [y], .val (.int x), s', p', n2, g2, rfl, rfl, ?_, ?_, by omega, by omega⟩
      · intro w hw
        rcases List.mem_append.mp hw with hw | hw
        · exact hr w hw
        · rw [List.mem_singleton.mp hw]; exact hy
      · rw [List.length_append, hl]; rfl)
    ⟨[], .emp, .emp, .emp, n + 1, g1, rfl, rfl, fun x hx => (nomatch hx), rfl, by omega, by omega⟩
  rw [rg_len, Nat.zero_add] at hl hn3
  refine ⟨r, n', gs', hr, by omega, by omega, by omega, ?_⟩
  have e0 : F_law_row [.ref 1, .int c, .int mo] (stD T cs gs n) = fbR (g_law_row [.val (.ref 1), .val (.int c), .val (.int mo), .emp, .emp, .emp, .emp] (stD T cs gs n)) := (def0_fb (by rfl)).trans rfl
  rw [e0]
  unfold g_law_row
  have s0 : gSet 3 (fLst fNil) [.val (.ref 1), .val (.int c), .val (.int mo), .emp, .emp, .emp, .emp] (stD T cs gs n) = .nx [.val (.ref 1), .val (.int c), .val (.int mo), .own [], .emp, .emp, .emp] (stD T cs gs n) := gSet_ok (fLst_ok (ds := []) rfl)
  refine (congrArg fbR (gSeq_nx s0)).trans ?_
  refine (congrArg fbR (gSeq_nx ((gFor_ok fi).trans h2))).trans ?_
  refine (congrArg fbR (gRet_ok (tup_ok (cons1 (fVar_own rfl))))).trans ?_
  rfl
end
/-! from A21 -/
section
variable {S : Sto} {ρ : Rho} {i j a n lim : Int} {d e : D} {fa fb : Fx} {g : Gx} {S1 : Sto} {cs gs : List Int} {T : Sto} {c : Nat}
theorem en_zip : ∀ (ns : List Int) (k : Nat), enD k (ns.map D.int) = (ns.zipIdx k).map fun (p : Int × Nat) => .tup false [.int (p.2 : Nat), .int p.1]
  | [], k => by unfold enD; rfl
  | v :: ns, k => by
    rw [List.map_cons]
    unfold enD
    rw [en_zip ns (k + 1)]
    rfl
theorem get_int {l : List Int} {k : Nat} (h : k < l.length) : (l.map D.int)[k]? = some (.int (l.getD k 0)) := by
  rw [List.getElem?_map, List.getD_eq_getElem?_getD, List.getElem?_eq_getElem h]
  rfl
theorem rg2_ints : rg2 [.int 1, .int 64] = some ((List.range 63).map fun (k : Nat) => .int ((k : Int) + 1)) := by
  have e : rgD 1 ((64 : Int) - 1).toNat = (List.range 63).map fun (k : Nat) => D.int ((k : Int) + 1) := by
    unfold rgD
    refine List.map_congr_left fun i _ => ?_
    show D.int (1 + (i : Int)) = D.int (i + 1)
    rw [Int.add_comm]
  rw [rg2, if_pos (by decide), e]
theorem e_folded (ns : List Int) (S : Sto) : ∃ cs : List Int, cs.length = 64 ∧ F_law_folded [.frz (ns.map D.int)] S = .ok (.lst (cs.map D.int)) S := by
  have s1 := gSet_ok (i := 1) (fLc_map (vs := [2]) (ρ := [.val (.frz (ns.map D.int)), .emp, .emp, .emp]) (fi := fRange1 (fCons (fC (.int 64)) fNil)) (t := tnName 2) (fe := f2 dAdd (fC (.int 17)) (fVar 2)) (S := S) (S1 := S) (ds := (rgI 64).map D.int) D.int (fun v => .int (17 + v)) (rgI 64) (by
    unfold fRange1
    rw [cons1 (kI 64)]
    show aOf (rg1 [.int 64]) _ = _
    rw [rg_ints (by decide) (by decide)]
    rfl) rfl (fun v _ => ⟨_, rfl, f2_ok (kI 17) (fVar_val rfl) addI⟩) (by rw [rg_len]; decide))
  obtain ⟨ρ1, h1, l1, x, y, hl1, rfl⟩ := forG_inv (S := S) (tf := tfOf (tnTup 2 (tnCons (tnName 2) (tnCons (tnName 3) tnNil)))) (g := gAs (f2 dMod (fCall dInt (fCons (f2 dAdd (f2 dMul (f2S dIx (fVar 1) (f2 dMod (fCall dInt (fCons (fVar 2) fNil)) (fC (.int 64)))) (fC (.int 48271))) (fVar 3)) fNil)) (fC (.int 2147483647))) (tfSub 1 (f2 dMod (fCall dInt (fCons (fVar 2) fNil)) (fC (.int 64)))))
    (fun ρ => ∃ (l : List Int) (x y : Sl), l.length = 64 ∧ ρ = [.val (.frz (ns.map D.int)), .own (l.map D.int), x, y]) (fun (p : Int × Nat) => .tup false [.int (p.2 : Nat), .int p.1]) (ns.zipIdx 0) [.val (.frz (ns.map D.int)), .own (((rgI 64).map fun v => 17 + v).map D.int), .emp, .emp]
    (fun p hp ρ ⟨l, x, y, hl, hρ⟩ => by
      subst hρ
      have hm := fmod_at (p.2 : Int) (show (0 : Int) < 64 by decide)
      have mk : ∀ S : Sto, f2 dMod (fCall dInt (fCons (fVar 2) fNil)) (fC (.int 64)) [.val (.frz (ns.map D.int)), .own (l.map D.int), .val (.int (p.2 : Nat)), .val (.int p.1)] S = .ok (.int ((p.2 : Int).fmod 64)) S := fun S => f2_ok (fCall_ok (g := dInt) (cons1 (fVar_val rfl)) intI) (kI 64) (modI (by decide))
      refine ⟨[.val (.frz (ns.map D.int)), .own (l.map D.int), .val (.int (p.2 : Nat)), .val (.int p.1)], _, rfl, gAs_ok (f2_ok (fCall_ok (g := dInt) (cons1 (f2_ok (f2_ok (f2S_ok (fVar_own rfl) (mk S) (dIx_at (xs := l.map D.int) (j := ((p.2 : Int).fmod 64).toNat) rfl (by omega) (get_int (by omega)))) (kI 48271) (mulI (inW_r (by decide) (by decide)))) (fVar_val rfl) addI)) intI) (kI 2147483647) (modI (by decide))) (tfSub_own (j := ((p.2 : Int).fmod 64).toNat) rfl (mk S) (by omega) (by rw [List.length_map]; omega)), ?_⟩
      refine ⟨_, _, _, ?_, by rw [← List.map_set]; rfl⟩
      rw [List.length_set]; exact hl) ⟨_, _, _, by rw [List.length_map, rg_len], rfl⟩
  obtain ⟨ρ2, h2, l2, x2, y2, hl2, rfl⟩ := forG_inv (S := S) (tf := tfOf (tnName 2)) (g := gAs (f2 dMod (fCall dInt (fCons (f2 dAdd (f2S dIx (fVar 1) (fVar 2)) (f2 dMul (f2S dIx (fVar 1) (f2 dSub (fVar 2) (fC (.int 1)))) (fC (.int 16807)))) fNil)) (fC (.int 2147483647))) (tfSub 1 (fVar 2)))
    (fun ρ => ∃ (l : List Int) (x y : Sl), l.length = 64 ∧ ρ = [.val (.frz (ns.map D.int)), .own (l.map D.int), x, y]) (fun (k : Nat) => .int ((k : Int) + 1)) (List.range 63) [.val (.frz (ns.map D.int)), .own (l1.map D.int), x, y]
    (fun k hk ρ ⟨l, x, y, hl, hρ⟩ => by
      subst hρ
      have hk' := List.mem_range.mp hk
      refine ⟨[.val (.frz (ns.map D.int)), .own (l.map D.int), .val (.int ((k : Int) + 1)), y], _, rfl, gAs_ok (f2_ok (fCall_ok (g := dInt) (cons1 (f2_ok (f2S_ok (fVar_own rfl) (fVar_val rfl) (dIx_at (xs := l.map D.int) (j := k + 1) rfl (by omega) (get_int (by omega)))) (f2_ok (f2S_ok (fVar_own rfl) (f2_ok (fVar_val rfl) (kI 1) subI) (dIx_at (xs := l.map D.int) (j := k) rfl (by omega) (get_int (by omega)))) (kI 16807) (mulI (inW_r (by decide) (by decide)))) addI)) intI) (kI 2147483647) (modI (by decide))) (tfSub_own (j := k + 1) rfl (fVar_val rfl) (by omega) (by rw [List.length_map]; omega)), ?_⟩
      refine ⟨_, _, _, ?_, by rw [← List.map_set]; rfl⟩
      rw [List.length_set]; exact hl) ⟨_, _, _, hl1, rfl⟩
  refine ⟨l2, hl2, ?_⟩
  have e0 : F_law_folded [.frz (ns.map D.int)] S = fbR (g_law_folded [.val (.frz (ns.map D.int)), .emp, .emp, .emp] S) := (def0_fb (by rfl)).trans rfl
  rw [e0]
  unfold g_law_folded
  have f1 : fEnum (fSlot 0) [.val (.frz (ns.map D.int)), .own (((rgI 64).map fun v => 17 + v).map D.int), .emp, .emp] S = .ok ((ns.zipIdx 0).map fun (p : Int × Nat) => .tup false [.int (p.2 : Nat), .int p.1]) S := by
    rw [← en_zip]
    rfl
  have f2' : fRange2 (fCons (fC (.int 1)) (fCons (fC (.int 64)) fNil)) [.val (.frz (ns.map D.int)), .own (l1.map D.int), x, y] S = .ok ((List.range 63).map fun (k : Nat) => .int ((k : Int) + 1)) S := by
    unfold fRange2
    rw [cons2 (kI 1) (kI 64)]
    show aOf (rg2 [.int 1, .int 64]) _ = _
    rw [rg2_ints]
    rfl
  have m1 : (rgI 64).map (fun v => D.int (17 + v)) = ((rgI 64).map fun v => 17 + v).map D.int := by rw [List.map_map]; rfl
  rw [m1] at s1
  refine (congrArg fbR (gSeq_nx s1)).trans ?_
  refine (congrArg fbR (gSeq_nx ((gFor_ok f1).trans h1))).trans ?_
  refine (congrArg fbR (gSeq_nx ((gFor_ok f2').trans h2))).trans ?_
  refine (congrArg fbR (gRetV_own rfl)).trans ?_
  rfl
theorem big : ∀ S : Sto, f2 dPow (fC (.int 10)) (fC (.int 18)) ρ S = .ok (.int (10 ^ 18)) S := fun S => by
  refine f2_ok (kI 10) (kI 18) ?_
  show (if decide ((0 : Int) ≤ 18 ∧ (18 : Int) ≤ 1000000 ∧ (10 : Int).natAbs < 2 ^ 64) = true then some (D.int (10 ^ (18 : Int).toNat)) else none) = _
  rw [if_pos (by decide)]
  rfl
theorem e_begun (ns : List Int) (hl : ns.length ≤ 63) : ∃ cs gs : List Int, cs.length = 64 ∧ F_law_begun [.frz (ns.map D.int)] [.tab "need_row"] = .ok (.ref 1) (stD [] cs gs 0) := by
  obtain ⟨cs, hc, hf⟩ := e_folded ns [.tab "need_row"]
  let S1 : Sto := [.tab "need_row", .dct [(.inr "cells", .lst (cs.map .int)), (.inr "great", .lst []), (.inr "spot", .int 0)]]
  have s1 : gSetR 1 (fDict [(.inr "cells", (fDef F_law_folded (fCons (fVar 0) fNil))), (.inr "great", (fLst fNil)), (.inr "spot", (fC (.int 0)))]) [.val (.frz (ns.map D.int)), .emp, .emp] [.tab "need_row"] = .nx [.val (.frz (ns.map D.int)), .val (.ref 1), .emp] S1 := by
    refine gSetR_ok (d := .ref 1) ?_
    unfold fDict
    have k : fKs [(.inr "cells", (fDef F_law_folded (fCons (fVar 0) fNil))), (.inr "great", (fLst fNil)), (.inr "spot", (fC (.int 0)))] [.val (.frz (ns.map D.int)), .emp, .emp] [.tab "need_row"] = .ok [.lst (cs.map .int), .lst [], .int 0] [.tab "need_row"] := by
      show fCons (fDef F_law_folded (fCons (fVar 0) fNil)) (fCons (fLst fNil) (fCons (fC (.int 0)) fNil)) [.val (.frz (ns.map D.int)), .emp, .emp] [.tab "need_row"] = _
      exact cons3 ((fDef_ok (cons1 (fVar_val rfl))).trans hf) (fLst_ok (ds := []) rfl) (kI 0)
    rw [k]
    rfl
  refine ⟨cs, ns.map fun v => if 10 ^ 18 ≤ v then v else 0, hc, ?_⟩
  have lc := fLc_map (vs := [2]) (ρ := [.val (.frz (ns.map D.int)), .val (.ref 1), .emp]) (fi := fItems (fVar 0)) (t := tnName 2) (fe := fIf (f2 dGeI (fVar 2) (f2 dPow (fC (.int 10)) (fC (.int 18)))) (fVarR 2) (fC (.int 0))) (S := S1) (S1 := S1) (ds := ns.map D.int) D.int (fun v => .int (if 10 ^ 18 ≤ v then v else 0)) ns rfl rfl (fun v _ => by
    refine ⟨[.val (.frz (ns.map D.int)), .val (.ref 1), .val (.int v)], rfl, ?_⟩
    refine fIf_ok (b := decide ((10 : Int) ^ 18 ≤ v)) (f2_ok (fVar_val rfl) (big S1) rfl) (fun h => ?_) (fun h => ?_)
    · rw [if_pos (of_decide_eq_true h)]; exact fVarR_val rfl
    · rw [if_neg (of_decide_eq_false h)]; rfl) (by omega)
  have m1 : ns.map (fun v => D.int (if 10 ^ 18 ≤ v then v else 0)) = (ns.map fun v => if 10 ^ 18 ≤ v then v else 0).map D.int := by rw [List.map_map]; rfl
  rw [m1] at lc
  have s2 : gAs (fToS (fLc [2] (fItems (fVar 0)) (tnName 2) fYes (fIf (f2 dGeI (fVar 2) (f2 dPow (fC (.int 10)) (fC (.int 18)))) (fVarR 2) (fC (.int 0))))) (tfSub 1 (fC (.str "great"))) [.val (.frz (ns.map D.int)), .val (.ref 1), .emp] S1 = .nx [.val (.frz (ns.map D.int)), .val (.ref 1), .emp] (stD [] cs (ns.map fun v => if 10 ^ 18 ≤ v then v else 0) 0) := by
    refine gAs_ok (d := .ref 2) (S1 := S1 ++ [.lst ((ns.map fun v => if 10 ^ 18 ≤ v then v else 0).map D.int)]) ?_ rfl
    unfold fToS
    rw [lc]
    rfl
  have e0 : F_law_begun [.frz (ns.map D.int)] [.tab "need_row"] = fbR (g_law_begun [.val (.frz (ns.map D.int)), .emp, .emp] [.tab "need_row"]) := (def0_fb (by rfl)).trans rfl
  rw [e0]
  unfold g_law_begun
  refine (congrArg fbR (gSeq_nx s1)).trans ?_
  refine (congrArg fbR (gSeq_nx s2)).trans ?_
  rfl
end
end K14

set_option Elab.async false
set_option linter.all false
set_option maxRecDepth 100000
/-! C1: k14's plain law: what the signs of the meetings say of where the cords stand -/
namespace K14
open PySem PySem.Spec L2 QL
open PyProof.Rows hiding St cutD
/-- a meeting: over, under, sign -/
abbrev Mt := Int × Int × Bool
def sgn (b : Bool) : Int := if b = true then 1 else -1
abbrev Qs := Int → Int → Int
def upd (q : Qs) (m : Mt) : Qs := fun u o => if m.2.1 = u ∧ m.1 = o then q u o + sgn m.2.2 else q u o
def cntF (q : Qs) (ms : List Mt) : Qs := ms.foldl upd q
def q0 : Qs := fun _ _ => 0
/-- pairs -/
abbrev Fs := Int × Int → Int
def keyM (m : Mt) : Int × Int := if m.1 < m.2.1 then (m.1, m.2.1) else (m.2.1, m.1)
def updP (f : Fs) (m : Mt) : Fs := fun p => if p = keyM m then f p + sgn m.2.2 else f p
def pnF (f : Fs) (ms : List Mt) : Fs := ms.foldl updP f
def f0 : Fs := fun _ => 0
theorem sgn_le (b : Bool) : -1 ≤ sgn b ∧ sgn b ≤ 1 := by cases b <;> decide
theorem cnt_le : ∀ (ms : List Mt) (q : Qs) (u o : Int), -(ms.length : Int) ≤ cntF q ms u o - q u o ∧ cntF q ms u o - q u o ≤ ms.length
  | [], q, u, o => by simp [cntF]
  | m :: ms, q, u, o => by
    have h := cnt_le ms (upd q m) u o
    have e : cntF q (m :: ms) u o = cntF (upd q m) ms u o := rfl
    have s := sgn_le m.2.2
    rw [List.length_cons, e]
    have : upd q m u o = q u o + sgn m.2.2 ∨ upd q m u o = q u o := by
      unfold upd
      by_cases c : m.2.1 = u ∧ m.1 = o
      · rw [if_pos c]; exact .inl rfl
      · rw [if_neg c]; exact .inr rfl
    omega
theorem cnt_diag : ∀ (ms : List Mt) (q : Qs) (v : Int), (∀ m ∈ ms, m.1 ≠ m.2.1) → cntF q ms v v = q v v
  | [], q, v, _ => rfl
  | m :: ms, q, v, h => by
    have e : cntF q (m :: ms) v v = cntF (upd q m) ms v v := rfl
    rw [e, cnt_diag ms (upd q m) v fun x hx => h x (List.mem_cons_of_mem _ hx)]
    unfold upd
    exact if_neg fun c => h m List.mem_cons_self (c.2.trans c.1.symm)
theorem pair_cnt : ∀ (ms : List Mt) (q : Qs) (f : Fs) (a b : Int), a < b → (∀ m ∈ ms, m.1 ≠ m.2.1) → f (a, b) = q a b + q b a → pnF f ms (a, b) = cntF q ms a b + cntF q ms b a
  | [], q, f, a, b, _, _, h => h
  | m :: ms, q, f, a, b, ab, hm, h => by
    refine pair_cnt ms (upd q m) (updP f m) a b ab (fun x hx => hm x (List.mem_cons_of_mem _ hx)) ?_
    have n := hm m List.mem_cons_self
    obtain ⟨o, u, s⟩ := m
    have n' : o ≠ u := n
    unfold updP upd keyM
    by_cases c1 : u = a ∧ o = b
    · obtain ⟨rfl, rfl⟩ := c1
      have c2 : ¬ (u = o ∧ o = u) := fun c => n' c.2
      simp only [h, if_neg (show ¬ o < u by omega), and_self, if_true, if_neg c2]
      omega
    · by_cases c2 : u = b ∧ o = a
      · obtain ⟨rfl, rfl⟩ := c2
        simp only [h, if_pos ab, and_self, if_true, if_neg c1]
        omega
      · have c3 : ¬ ((a, b) = if o < u then (o, u) else (u, o)) := by
          by_cases lt : o < u
          · rw [if_pos lt]
            intro e
            cases e
            exact c2 ⟨rfl, rfl⟩
          · rw [if_neg lt]
            intro e
            cases e
            exact c1 ⟨rfl, rfl⟩
        simp only [if_neg c1, if_neg c2, if_neg c3]
        exact h
/-- b stands left of a -/
def lf (l : List Int) (b a : Int) : Int := if placeF l b < placeF l a then 1 else 0
section
variable {l : List Int} {p : Nat} {v a b : Int} {x : Cr} {r : List Cr} {c : Nat}
theorem get_D (h : p < l.length) : l[p]? = some (l.getD p 0) := by
  rw [List.getD_eq_getElem?_getD, List.getElem?_eq_getElem h]; rfl
theorem place_D (nd : l.Nodup) (h : p < l.length) : placeF l (l.getD p 0) = p := place_at nd (get_D h)
theorem swap_nd (nd : l.Nodup) : (swapL l p).Nodup := (swap_perm l p).nodup_iff.mpr nd
theorem near_far (nd : l.Nodup) (h : p + 1 < l.length) : l.getD p 0 ≠ l.getD (p + 1) 0 := fun e => by
  have h1 := place_D nd (show p < l.length by omega)
  have h2 := place_D nd h
  rw [e, h2] at h1
  omega
theorem swap_place (nd : l.Nodup) (h : p + 1 < l.length) (hv : v ∈ l) : placeF (swapL l p) v = if v = l.getD p 0 then p + 1 else if v = l.getD (p + 1) 0 then p else placeF l v := by
  by_cases h1 : v = l.getD p 0
  · rw [if_pos h1]
    refine place_at (swap_nd nd) ?_
    rw [swap_get h, if_neg (by omega), if_pos rfl, h1]
    exact get_D (by omega)
  · rw [if_neg h1]
    by_cases h2 : v = l.getD (p + 1) 0
    · rw [if_pos h2]
      refine place_at (swap_nd nd) ?_
      rw [swap_get h, if_pos rfl, h2]
      exact get_D h
    · rw [if_neg h2]
      have e := (place_some hv).2
      refine place_at (swap_nd nd) ?_
      have n1 : placeF l v ≠ p := fun q => by
        rw [q, get_D (by omega)] at e
        exact h1 (Option.some.inj e).symm
      have n2 : placeF l v ≠ p + 1 := fun q => by
        rw [q, get_D h] at e
        exact h2 (Option.some.inj e).symm
      rw [swap_get h, if_neg n1, if_neg n2]
      exact e
theorem place_ne (ha : a ∈ l) (hb : b ∈ l) (n : a ≠ b) : placeF l a ≠ placeF l b := fun e => by
  have h1 := (place_some ha).2
  have h2 := (place_some hb).2
  rw [e, h2] at h1
  exact n (Option.some.inj h1).symm
/-- the meeting of a crossing -/
def mtOf (l : List Int) (x : Cr) : Mt := if x.1 = true then (l.getD x.2 0, l.getD (x.2 + 1) 0, true) else (l.getD (x.2 + 1) 0, l.getD x.2 0, false)
theorem met_eq : metF l (x :: r) = mtOf l x :: metF (swapL l x.2) r := rfl
theorem mt_ne (nd : l.Nodup) (h : x.2 + 1 < l.length) : (mtOf l x).1 ≠ (mtOf l x).2.1 := by
  have n := near_far nd h
  unfold mtOf
  cases x.1
  · exact fun e => n e.symm
  · exact n
theorem met_ne : ∀ (r : List Cr) (l : List Int), l.Nodup → (∀ x ∈ r, x.2 + 1 < l.length) → ∀ m ∈ metF l r, m.1 ≠ m.2.1
  | [], l, _, _, m, hm => nomatch hm
  | x :: r, l, nd, h, m, hm => by
    rw [met_eq] at hm
    rcases List.mem_cons.mp hm with rfl | hm
    · exact mt_ne nd (h x List.mem_cons_self)
    · exact met_ne r (swapL l x.2) (swap_nd nd) (fun y hy => by rw [swapL_length]; exact h y (List.mem_cons_of_mem _ hy)) m hm
theorem pl_aux (p i : Nat) : ∃ j, (if i = p then p + 1 else if i = p + 1 then p else i) = j ∧ ((i = p ∧ j = p + 1) ∨ (i = p + 1 ∧ j = p) ∨ (i ≠ p ∧ i ≠ p + 1 ∧ j = i)) := by
  refine ⟨_, rfl, ?_⟩
  by_cases h1 : i = p
  · rw [if_pos h1]; exact .inl ⟨h1, rfl⟩
  · rw [if_neg h1]
    by_cases h2 : i = p + 1
    · rw [if_pos h2]; exact .inr (.inl ⟨h2, rfl⟩)
    · rw [if_neg h2]; exact .inr (.inr ⟨h1, h2, rfl⟩)
theorem ifI (P : Prop) [Decidable P] : (P ∧ (if P then (1 : Int) else 0) = 1) ∨ (¬ P ∧ (if P then (1 : Int) else 0) = 0) := by
  by_cases h : P
  · exact .inl ⟨h, if_pos h⟩
  · exact .inr ⟨h, if_neg h⟩
theorem lf_aux (p ia ib : Nat) (n : ia ≠ ib) : (if ia = p ∧ ib = p + 1 then (1 : Int) else 0) - (if ib = p ∧ ia = p + 1 then (1 : Int) else 0) = (if (if ib = p then p + 1 else if ib = p + 1 then p else ib) < (if ia = p then p + 1 else if ia = p + 1 then p else ia) then (1 : Int) else 0) - (if ib < ia then (1 : Int) else 0) := by
  obtain ⟨ja, ea, ha⟩ := pl_aux p ia
  obtain ⟨jb, eb, hb⟩ := pl_aux p ib
  rw [ea, eb]
  have h1 := ifI (ia = p ∧ ib = p + 1)
  have h2 := ifI (ib = p ∧ ia = p + 1)
  have h3 := ifI (jb < ja)
  have h4 := ifI (ib < ia)
  generalize (if ia = p ∧ ib = p + 1 then (1 : Int) else 0) = t1 at *
  generalize (if ib = p ∧ ia = p + 1 then (1 : Int) else 0) = t2 at *
  generalize (if jb < ja then (1 : Int) else 0) = t3 at *
  generalize (if ib < ia then (1 : Int) else 0) = t4 at *
  omega
theorem e_aux (near far a b : Int) (s : Bool) (q : Qs) : upd q (if s = true then (near, far, true) else (far, near, false)) b a - upd q (if s = true then (near, far, true) else (far, near, false)) a b = q b a - q a b + (if near = a ∧ far = b then (1 : Int) else 0) - (if near = b ∧ far = a then (1 : Int) else 0) := by
  cases s
  · show (if near = b ∧ far = a then q b a + (-1) else q b a) - (if near = a ∧ far = b then q a b + (-1) else q a b) = _
    by_cases h1 : near = a ∧ far = b <;> by_cases h2 : near = b ∧ far = a <;> simp only [h1, h2, and_self, if_true, if_false] <;> omega
  · show (if far = b ∧ near = a then q b a + 1 else q b a) - (if far = a ∧ near = b then q a b + 1 else q a b) = _
    have c1 : (far = b ∧ near = a) = (near = a ∧ far = b) := propext ⟨fun h => ⟨h.2, h.1⟩, fun h => ⟨h.2, h.1⟩⟩
    have c2 : (far = a ∧ near = b) = (near = b ∧ far = a) := propext ⟨fun h => ⟨h.2, h.1⟩, fun h => ⟨h.2, h.1⟩⟩
    simp only [c1, c2]
    by_cases h1 : near = a ∧ far = b <;> by_cases h2 : near = b ∧ far = a <;> simp only [h1, h2, and_self, if_true, if_false] <;> omega
theorem lf_step (nd : l.Nodup) (h : x.2 + 1 < l.length) (ha : a ∈ l) (hb : b ∈ l) (n : a ≠ b) (q : Qs) :
    upd q (mtOf l x) b a - upd q (mtOf l x) a b = q b a - q a b + lf (swapL l x.2) b a - lf l b a := by
  have pa := place_D nd (show x.2 < l.length by omega)
  have pb := place_D nd h
  have pn := place_ne ha hb n
  have key : ∀ {w : Int} {k : Nat}, w ∈ l → k < l.length → (w = l.getD k 0) = (placeF l w = k) := fun {w k} hw hk => propext ⟨fun e => by rw [e]; exact place_D nd hk, fun e => by have := (place_some hw).2; rw [e, get_D hk] at this; exact (Option.some.inj this).symm⟩
  have key' : ∀ {w : Int} {k : Nat}, w ∈ l → k < l.length → (l.getD k 0 = w) = (placeF l w = k) := fun {w k} hw hk => (propext ⟨Eq.symm, Eq.symm⟩ : _ = (w = l.getD k 0)).trans (key hw hk)
  have e := e_aux (l.getD x.2 0) (l.getD (x.2 + 1) 0) a b x.1 q
  unfold mtOf lf
  rw [e, swap_place nd h ha, swap_place nd h hb]
  simp only [key ha (show x.2 < l.length by omega), key hb (show x.2 < l.length by omega), key ha h, key hb h, key' ha (show x.2 < l.length by omega), key' hb (show x.2 < l.length by omega), key' ha h, key' hb h]
  have := lf_aux x.2 (placeF l a) (placeF l b) pn
  omega
theorem lf_all : ∀ (r : List Cr) (l : List Int) (q : Qs), l.Nodup → (∀ x ∈ r, x.2 + 1 < l.length) → a ∈ l → b ∈ l → a ≠ b → cntF q (metF l r) b a - cntF q (metF l r) a b = q b a - q a b + lf (lastF l r) b a - lf l b a
  | [], l, q, _, _, _, _, _ => by show q b a - q a b = _; unfold lastF; omega
  | x :: r, l, q, nd, h, ha, hb, n => by
    have hx := h x List.mem_cons_self
    have s := lf_step (q := q) nd hx ha hb n
    have pm := swap_perm l x.2
    have i := lf_all r (swapL l x.2) (upd q (mtOf l x)) (swap_nd nd) (fun y hy => by rw [swapL_length]; exact h y (List.mem_cons_of_mem _ hy)) (pm.mem_iff.mpr ha) (pm.mem_iff.mpr hb) n
    have e : cntF q (metF l (x :: r)) = cntF (upd q (mtOf l x)) (metF (swapL l x.2) r) := rfl
    have e2 : lastF l (x :: r) = lastF (swapL l x.2) r := rfl
    rw [e, e2]
    omega
theorem place_rg {v : Int} (h : v ∈ rgI c) : placeF (rgI c) v = v.toNat := by
  have hv := rg_mem.mp h
  refine place_at (nodup_rg c) ?_
  rw [rg_get (by omega)]
  congr 1
  omega
/-- the counts, the pair numbers of a row -/
def cn (c : Nat) (r : List Cr) : Qs := cntF q0 (metF (rgI c) r)
def pr (c : Nat) (r : List Cr) : Fs := pnF f0 (metF (rgI c) r)
theorem cn_dif (h : RowOk c r) (ha : a ∈ rgI c) (hb : b ∈ rgI c) (lt : a < b) : cn c r b a - cn c r a b = lf (lastF (rgI c) r) b a := by
  have e := lf_all r (rgI c) q0 (nodup_rg c) h.fits ha hb (by omega)
  have z : lf (rgI c) b a = 0 := by
    have h1 := rg_mem.mp ha
    unfold lf
    rw [place_rg ha, place_rg hb]
    exact if_neg (by omega)
  have z0 : q0 b a - q0 a b = 0 := rfl
  unfold cn
  omega
theorem cn_diag (h : RowOk c r) (v : Int) : cn c r v v = 0 := cnt_diag _ _ _ (met_ne r _ (nodup_rg c) h.fits)
theorem pr_cn (h : RowOk c r) (lt : a < b) : pr c r (a, b) = cn c r a b + cn c r b a := pair_cnt _ _ _ _ _ lt (met_ne r _ (nodup_rg c) h.fits) rfl
theorem cn_le (h : RowOk c r) (u o : Int) : -60 ≤ cn c r u o ∧ cn c r u o ≤ 60 := by
  have e := cnt_le (metF (rgI c) r) q0 u o
  have z : q0 u o = 0 := rfl
  rw [met_len] at e
  have := h.2.2.1
  unfold cn
  omega
theorem lf_01 (l : List Int) (b a : Int) : lf l b a = 0 ∨ lf l b a = 1 := by
  unfold lf
  by_cases h : placeF l b < placeF l a
  · rw [if_pos h]; exact .inr rfl
  · rw [if_neg h]; exact .inl rfl
/-- the parity says who stands left -/
theorem pr_mod (h : RowOk c r) (ha : a ∈ rgI c) (hb : b ∈ rgI c) (lt : a < b) : (pr c r (a, b)).fmod 2 = lf (lastF (rgI c) r) b a := by
  have e := cn_dif h ha hb lt
  rw [pr_cn h lt, Int.fmod_eq_emod_of_nonneg _ (by decide)]
  have := lf_01 (lastF (rgI c) r) b a
  omega
/-- half of it says the counts -/
theorem pr_div (h : RowOk c r) (ha : a ∈ rgI c) (hb : b ∈ rgI c) (lt : a < b) : (pr c r (a, b)).fdiv 2 = cn c r a b ∧ (pr c r (a, b) + 1).fdiv 2 = cn c r b a := by
  have e := cn_dif h ha hb lt
  rw [pr_cn h lt, Int.fdiv_eq_ediv_of_nonneg _ (by decide), Int.fdiv_eq_ediv_of_nonneg _ (by decide)]
  have := lf_01 (lastF (rgI c) r) b a
  omega
theorem pr_le (h : RowOk c r) (lt : a < b) : -120 ≤ pr c r (a, b) ∧ pr c r (a, b) ≤ 120 := by
  have h1 := cn_le h a b
  have h2 := cn_le h b a
  rw [pr_cn h lt]
  omega
end
end K14

set_option Elab.async false
set_option linter.all false
set_option maxRecDepth 100000
/-! C2: k14's plain law: a near row is drawn -/
namespace K14
open PySem PySem.Spec L2 QL
open PyProof.Rows hiding St cutD
section
variable {S : Sto} {ρ : Rho} {i j a n lim : Int} {d e : D} {fa fb : Fx} {g : Gx} {S1 : Sto} {cs gs : List Int} {T : Sto} {c : Nat} {r : List Cr} {x : Cr}
theorem d_addT {z y : Bool} {xs ys : List D} (h : xs.length + ys.length ≤ 1000000) : dAdd (.tup z xs) (.tup y ys) = some (.tup (z && y) (xs ++ ys)) := by
  show (none : Option D).or ((if xs.length + ys.length ≤ 1000000 then some (D.tup (z && y) (xs ++ ys)) else none).or (none : Option D)) = _
  rw [if_pos h]
  rfl
theorem slT_to {z : Bool} {xs : List D} {p : Nat} {f fh : Fx} (h : f ρ S = .ok (.tup z xs) S) (hp : fh ρ S = .ok (.int p) S) (hl : p ≤ xs.length) : fSl f fNo (fI fh) ρ S = .ok (.tup z (xs.take p)) S := by
  have e : dSl S (.tup z xs) none (some (p : Int)) = some (.tup z (xs.take p)) := by rw [← cut_to hl]; rfl
  unfold fSl fI fNo
  rw [h]
  simp only [Res.bind, fC, hp, oP, Option.bind]
  exact congrArg (fun z => lift z S) e
theorem slT_from {z : Bool} {xs : List D} {p : Nat} {f fl : Fx} (h : f ρ S = .ok (.tup z xs) S) (hp : fl ρ S = .ok (.int p) S) (hl : p ≤ xs.length) : fSl f (fI fl) fNo ρ S = .ok (.tup z (xs.drop p)) S := by
  have e : dSl S (.tup z xs) (some (p : Int)) none = some (.tup z (xs.drop p)) := by rw [← cut_from hl]; rfl
  unfold fSl fI fNo
  rw [h]
  simp only [Res.bind, fC, hp, oP, Option.bind]
  exact congrArg (fun z => lift z S) e
theorem near_sum {m : List Cr} {p q : Nat} {fm fp fq : Fx} (h2 : ρ[2]? = some (.val (rowD true r))) (hp : fp ρ S = .ok (.int p) S) (hm : fm ρ S = .ok (rowD true m) S) (hq : fq ρ S = .ok (.int q) S) (lp : p ≤ r.length) (lq : q ≤ r.length) (lr : r.length ≤ 1000) (lm : m.length ≤ 1000) :
    f2 dAdd (f2 dAdd (fSl (fVar 2) fNo (fI fp)) fm) (fSl (fVar 2) (fI fq) fNo) ρ S = .ok (rowD true (r.take p ++ m ++ r.drop q)) S := by
  have l0 : (r.map crD).length = r.length := List.length_map _
  have e1 := f2_ok (slT_to (S := S) (ρ := ρ) (z := true) (xs := r.map crD) (fVar_val h2) hp (by omega)) hm (d_addT (z := true) (y := true) (xs := (r.map crD).take p) (ys := m.map crD) (by rw [List.length_take, List.length_map, List.length_map]; omega))
  have e2 := f2_ok e1 (slT_from (S := S) (ρ := ρ) (z := true) (xs := r.map crD) (fVar_val h2) hq (by omega)) (d_addT (z := true) (y := true) (by rw [List.length_append, List.length_take, List.length_drop, List.length_map, List.length_map]; omega))
  rw [e2]
  unfold rowD
  rw [List.map_append, List.map_append, List.map_take, List.map_drop]
  rfl
theorem ne_nilT {z y : Bool} {xs : List D} (h : SeqAt.shaped (D.py (.tup z xs)) = true) : dEqB (.tup z xs) (.tup y []) = some xs.isEmpty := by
  have e : D.py (.tup y []) = .tuple [] := by unfold D.py D.pys; rfl
  have s : SeqAt.shaped (D.py (.tup y [])) = true := by rw [e]; decide +kernel
  show (if SeqAt.shaped (D.py (.tup z xs)) = true ∧ SeqAt.shaped (D.py (.tup y [])) = true then some (PyData.eqv (D.py (.tup z xs)) (D.py (.tup y []))) else none) = _
  rw [if_pos ⟨h, s⟩, e]
  cases xs with
  | nil => unfold D.py D.pys; decide +kernel
  | cons x xs =>
    unfold D.py D.pys
    rfl
theorem row_shaped (z : Bool) (h : RowOk c r) : SeqAt.shaped (D.py (rowD z r)) = true := good_shaped (good_row z h) (by decide)
theorem e_lawnear (hc : cs.length = 64) (hn : 0 ≤ n) (hn2 : n < 70000) (h : RowOk c r) (hl : r.length ≤ 20) : ∃ r' n' gs', RowOk c r' ∧ n ≤ n' ∧ n' ≤ n + 70 ∧ F_law_near [.ref 1, .int c, rowD true r] (stD T cs gs n) = .ok (rowD true r') (stD T cs gs' n') := by
  obtain ⟨c1, c2, -, hf⟩ := h
  obtain ⟨w, g1, w0, w1, h1⟩ := e_draw (T := T) (gs := gs) (lim := 6) hc hn (by omega) (by decide) (by decide)
  obtain ⟨v, g2, v0, v1, h2⟩ := e_draw (T := T) (gs := g1) (lim := (r.length : Int) + 1) (n := n + 1) hc (by omega) (by omega) (by omega) (by omega)
  obtain ⟨p, rfl⟩ : ∃ p : Nat, v = (p : Int) := ⟨v.toNat, by omega⟩
  obtain ⟨b, g3, h3⟩ := e_of (T := T) (gs := g2) (n := n + 1 + 1) hc (by omega) (by omega)
  have dl : ∀ S : Sto, dLen S [rowD true r] = some (.int (r.length : Nat)) := fun S => by
    show some (D.int ((r.map crD).length : Nat)) = _
    rw [List.length_map]
  have s1 := gPar_ok (i := 3) (j := 4) (ρ := [.val (.ref 1), .val (.int c), .val (rowD true r), .emp, .emp, .emp, .emp, .emp, .emp, .emp, .emp]) ((fDef_ok (F := F_law_draw) (cons2 (fVar_val (i := 0) rfl) (kI 6))).trans h1) ((fDef_ok (F := F_law_draw) (cons2 (fVar_val (i := 0) rfl) (f2_ok (fCall_ok (cons1 (fVar_val (i := 2) rfl)) (dl _)) (kI 1) addI))).trans h2)
  have s2 := gSet_ok (i := 5) (ρ := [.val (.ref 1), .val (.int c), .val (rowD true r), .val (.int w), .val (.int p), .emp, .emp, .emp, .emp, .emp, .emp]) ((fDef_ok (F := F_law_of) (cons2 (fVar_val (i := 0) rfl) (fLst_ok (ds := sidesD) (cons2 (kS "left") (kS "right")) (by show 2 ≤ 1000000; decide)))).trans h3)
  have s3 := gSet_ok (i := 6) (S := stD T cs g3 (n + 1 + 1 + 1)) (ρ := [.val (.ref 1), .val (.int c), .val (rowD true r), .val (.int w), .val (.int p), .val (.str (sideS b)), .emp, .emp, .emp, .emp, .emp]) (f := fIf (f2S dEqS (fVar 5) (fC (.str "left"))) (fC (.str "right")) (fC (.str "left"))) (d := .str (sideS !b)) (fIf_ok (is_left rfl) (fun h => by rw [h]; rfl) (fun h => by rw [h]; rfl))
  let ρ3 : Rho := [.val (.ref 1), .val (.int c), .val (rowD true r), .val (.int w), .val (.int p), .val (.str (sideS b)), .val (.str (sideS !b)), .emp, .emp, .emp, .emp]
  let S3 : Sto := stD T cs g3 (n + 1 + 1 + 1)
  have tk : ∀ k : Int, f2S dEqS (fVar 3) (fC (.int k)) ρ3 S3 = .ok (.bl (decide (w = k))) S3 := fun k => f2S_ok (fVar_val rfl) (kI k) (eqI _ _)
  have tka : ∀ (k : Int) (f : Fx) (b : Bool), f ρ3 S3 = .ok (.bl b) S3 → fAnd (f2S dEqS (fVar 3) (fC (.int k))) f ρ3 S3 = .ok (.bl (decide (w = k) && b)) S3 := fun k f b hb => by
    have := tk k
    by_cases q : w = k
    · rw [decide_eq_true q] at this ⊢
      exact (fAnd_t this).trans hb
    · rw [decide_eq_false q] at this ⊢
      exact fAnd_f this
  have t1 := tka 1 (f2 dGtI (fVar 1) (fC (.int 2))) (decide ((2 : Int) < c)) (f2_ok (fVar_val rfl) (kI 2) rfl)
  have t2 := tka 2 (f2S dNeS (fVar 2) (fTup true fNil)) (!(r.map crD).isEmpty) (by
    refine f2S_ok (fVar_val rfl) (fTup_ok (ds := []) rfl) ?_
    show (dEqB (rowD true r) (.tup true [])).map (fun b => D.bl !b) = _
    unfold rowD
    rw [ne_nilT (row_shaped (c := c) true ⟨c1, c2, by omega, hf⟩)]
    rfl)
  have t3 := tka 3 (f2 dGtI (fCall dLen (fCons (fVar 2) fNil)) (fC (.int 1))) (decide ((1 : Int) < r.length)) (f2_ok (fCall_ok (cons1 (fVar_val rfl)) (dl _)) (kI 1) rfl)
  have e0 : ∀ S, F_law_near [.ref 1, .int c, rowD true r] S = fbR (g_law_near [.val (.ref 1), .val (.int c), .val (rowD true r), .emp, .emp, .emp, .emp, .emp, .emp, .emp, .emp] S) := fun S => (def0_fb (by rfl)).trans rfl
  have pl : p ≤ r.length := by omega
  have okR : ∀ {m : List Cr} {p q : Nat}, m.length ≤ 6 → Fit c m → RowOk c (r.take p ++ m ++ r.drop q) := fun {m p q} lm fm => ⟨c1, c2, by rw [List.length_append, List.length_append, List.length_take, List.length_drop]; omega, fun y hy => by
    rcases List.mem_append.mp hy with hy | hy
    · rcases List.mem_append.mp hy with hy | hy
      · exact hf y (List.mem_of_mem_take hy)
      · exact fm y hy
    · exact hf y (List.mem_of_mem_drop hy)⟩
  by_cases q0 : w = 0
  · obtain ⟨k, g4, k0, k1, h4⟩ := e_draw (T := T) (gs := g3) (lim := (c : Int) - 1) (n := n + 1 + 1 + 1) hc (by omega) (by omega) (by omega) (by omega)
    obtain ⟨k, rfl⟩ : ∃ k' : Nat, k = (k' : Int) := ⟨k.toNat, by omega⟩
    have u1 := gSet_ok (i := 7) (ρ := ρ3) (S := S3) ((fDef_ok (F := F_law_draw) (cons2 (fVar_val (i := 0) rfl) (f2_ok (fVar_val (i := 1) rfl) (kI 1) subI))).trans h4)
    have u2 := gRet_ok (near_sum (S := stD T cs g4 (n + 1 + 1 + 1 + 1)) (ρ := ρ3.set 7 (putSl (.int k))) (r := r) (m := [(b, k), (!b, k)]) (p := p) (q := p) (fp := fVar 4) (fq := fVar 4) (fm := fTup true (fCons (fTup true (fCons (fVarR 5) (fCons (fVarR 7) fNil))) (fCons (fTup true (fCons (fVarR 6) (fCons (fVarR 7) fNil))) fNil))) rfl (fVar_val rfl) (fTup_ok (cons2 (fTup_ok (cons2 (fVarR_val rfl) (fVarR_val rfl))) (fTup_ok (cons2 (fVarR_val rfl) (fVarR_val rfl))))) (fVar_val rfl) pl pl (by omega) (by simp))
    refine ⟨_, n + 1 + 1 + 1 + 1, g4, okR (m := [(b, k), (!b, k)]) (p := p) (q := p) (by simp) (fun y hy => ?_), by omega, by omega, ?_⟩
    · rcases List.mem_cons.mp hy with rfl | hy
      · show k + 2 ≤ c; omega
      · rw [List.mem_singleton.mp hy]; show k + 2 ≤ c; omega
    have t := tk 0
    rw [decide_eq_true q0] at t
    rw [e0]
    unfold g_law_near
    refine (congrArg fbR (gSeq_nx s1)).trans ?_
    refine (congrArg fbR (gSeq_nx s2)).trans ?_
    refine (congrArg fbR (gSeq_nx s3)).trans ?_
    exact congrArg fbR (gSeq_ret ((gIf_t t).trans ((gSeq_nx u1).trans u2)))
  have t0 := tk 0
  rw [decide_eq_false q0] at t0
  have start : ∀ {z : Res}, fbR ((gSeq (gIf (fAnd (f2S dEqS (fVar 3) (fC (.int 1))) (f2 dGtI (fVar 1) (fC (.int 2))))
    (gSeq (gSet 7 (fDef F_law_draw (fCons (fVar 0) (fCons (f2 dSub (fVar 1) (fC (.int 2))) fNil))))
    (gSeq (gPar 8 9 (fTup true (fCons (fVarR 5) (fCons (fVarR 7) fNil))) (fTup true (fCons (fVarR 5) (fCons (f2 dAdd (fVar 7) (fC (.int 1))) fNil))))
    (gSeq (gSet 10 (f2 dAdd (fTup true (fCons (fVarR 8) (fCons (fVarR 9) (fCons (fVarR 8) fNil)))) (fDef F_law_back (fCons (fTup true (fCons (fVarR 9) (fCons (fVarR 8) (fCons (fVarR 9) fNil)))) fNil))))
    (gRet (f2 dAdd (f2 dAdd (fSl (fVar 2) fNo (fI (fVar 4))) (fVar 10)) (fSl (fVar 2) (fI (fVar 4)) fNo))))))
    gNext)
    (gSeq (gIf (fAnd (f2S dEqS (fVar 3) (fC (.int 2))) (f2S dNeS (fVar 2) (fTup true fNil)))
    (gSeq (gSet 4 (f2 dMod (fCall dInt (fCons (fVar 4) fNil)) (fCall dLen (fCons (fVar 2) fNil))))
    (gSeq (gSet 5 (fIf (f2S dEqS (f2S dIx (f2S dIx (fVar 2) (fVar 4)) (fC (.int 0))) (fC (.str "left"))) (fC (.str "right")) (fC (.str "left"))))
    (gRet (f2 dAdd (f2 dAdd (fSl (fVar 2) fNo (fI (fVar 4))) (fTup true (fCons (fTup true (fCons (fVarR 5) (fCons (f2S dIx (f2S dIx (fVar 2) (fVar 4)) (fC (.int 1))) fNil))) fNil))) (fSl (fVar 2) (fI (f2 dAdd (fVar 4) (fC (.int 1)))) fNo)))))
    gNext)
    (gSeq (gIf (fAnd (f2S dEqS (fVar 3) (fC (.int 3))) (f2 dGtI (fCall dLen (fCons (fVar 2) fNil)) (fC (.int 1))))
    (gSeq (gSet 4 (f2 dMod (fCall dInt (fCons (fVar 4) fNil)) (f2 dSub (fCall dLen (fCons (fVar 2) fNil)) (fC (.int 1)))))
    (gRet (f2 dAdd (f2 dAdd (fSl (fVar 2) fNo (fI (fVar 4))) (fTup true (fCons (f2S dIx (fVar 2) (f2 dAdd (fVar 4) (fC (.int 1)))) (fCons (f2S dIx (fVar 2) (fVar 4)) fNil)))) (fSl (fVar 2) (fI (f2 dAdd (fVar 4) (fC (.int 2)))) fNo))))
    gNext)
    (gRet (fIf (f2S dEqS (fVar 3) (fC (.int 4))) (fNl (fVar 2)) (fDef F_law_row (fCons (fVar 0) (fCons (fVar 1) (fCons (fC (.int 6)) fNil))))))))) ρ3 S3) = z → F_law_near [.ref 1, .int c, rowD true r] (stD T cs gs n) = z := fun {z} hz => by
    rw [e0]
    unfold g_law_near
    refine (congrArg fbR (gSeq_nx s1)).trans ?_
    refine (congrArg fbR (gSeq_nx s2)).trans ?_
    refine (congrArg fbR (gSeq_nx s3)).trans ?_
    refine (congrArg fbR (gSeq_nx (gIfN t0))).trans ?_
    exact hz
  by_cases q1 : w = 1 ∧ 2 < c
  · obtain ⟨k, g4, k0, k1, h4⟩ := e_draw (T := T) (gs := g3) (lim := (c : Int) - 2) (n := n + 1 + 1 + 1) hc (by omega) (by omega) (by omega) (by omega)
    obtain ⟨k, rfl⟩ : ∃ k' : Nat, k = (k' : Int) := ⟨k.toNat, by omega⟩
    let S4 : Sto := stD T cs g4 (n + 1 + 1 + 1 + 1)
    let ne : Cr := (b, k)
    let fr : Cr := (b, k + 1)
    have u1 := gSet_ok (i := 7) (ρ := ρ3) (S := S3) ((fDef_ok (F := F_law_draw) (cons2 (fVar_val (i := 0) rfl) (f2_ok (fVar_val (i := 1) rfl) (kI 2) subI))).trans h4)
    have u2 : gPar 8 9 (fTup true (fCons (fVarR 5) (fCons (fVarR 7) fNil))) (fTup true (fCons (fVarR 5) (fCons (f2 dAdd (fVar 7) (fC (.int 1))) fNil))) (ρ3.set 7 (putSl (.int k))) S4 = .nx (((ρ3.set 7 (putSl (.int k))).set 8 (.val (crD ne))).set 9 (.val (crD fr))) S4 := gPar_ok (d := crD ne) (e := crD fr) (fTup_ok (cons2 (fVarR_val rfl) (fVarR_val rfl))) (fTup_ok (cons2 (fVarR_val rfl) (f2_ok (fVar_val rfl) (kI 1) addI)))
    have fr3 : RowOk c [fr, ne, fr] := ⟨c1, c2, by simp, fun y hy => by
      rcases List.mem_cons.mp hy with rfl | hy
      · show k + 1 + 2 ≤ c; omega
      rcases List.mem_cons.mp hy with rfl | hy
      · show k + 2 ≤ c; omega
      · rw [List.mem_singleton.mp hy]; show k + 1 + 2 ≤ c; omega⟩
    let m : List Cr := [ne, fr, ne] ++ [fr, ne, fr].reverse.map K14.flip
    have u3 := gSet_ok (i := 10) (S := S4) (ρ := ((ρ3.set 7 (putSl (.int k))).set 8 (.val (crD ne))).set 9 (.val (crD fr))) (f := f2 dAdd (fTup true (fCons (fVarR 8) (fCons (fVarR 9) (fCons (fVarR 8) fNil)))) (fDef F_law_back (fCons (fTup true (fCons (fVarR 9) (fCons (fVarR 8) (fCons (fVarR 9) fNil)))) fNil))) (d := rowD true m)
      (f2_ok (d := .tup true [crD ne, crD fr, crD ne]) (fTup_ok (cons3 (fVarR_val rfl) (fVarR_val rfl) (fVarR_val rfl))) ((fDef_ok (cons1 (d := rowD true [fr, ne, fr]) (fTup_ok (cons3 (fVarR_val rfl) (fVarR_val rfl) (fVarR_val rfl))))).trans (l_back true fr3)) ((d_addT (by show 6 ≤ 1000000; decide)).trans rfl))
    have u4 := gRet_ok (near_sum (S := S4) (ρ := (((ρ3.set 7 (putSl (.int k))).set 8 (.val (crD ne))).set 9 (.val (crD fr))).set 10 (putSl (rowD true m))) (r := r) (m := m) (p := p) (q := p) (fp := fVar 4) (fq := fVar 4) (fm := fVar 10) rfl (fVar_val rfl) (fVar_val rfl) (fVar_val rfl) pl pl (by omega) (by show 6 ≤ 1000; decide))
    refine ⟨_, n + 1 + 1 + 1 + 1, g4, okR (m := m) (p := p) (q := p) (by show 6 ≤ 6; decide) (fun y hy => ?_), by omega, by omega, ?_⟩
    · have k2 : k + 3 ≤ c := by omega
      have : y.2 = k ∨ y.2 = k + 1 := by
        rcases List.mem_append.mp hy with hy | hy
        · rcases List.mem_cons.mp hy with rfl | hy
          · exact .inl rfl
          rcases List.mem_cons.mp hy with rfl | hy
          · exact .inr rfl
          · rw [List.mem_singleton.mp hy]; exact .inl rfl
        · obtain ⟨z, hz, rfl⟩ := List.mem_map.mp hy
          have hz := List.mem_reverse.mp hz
          rcases List.mem_cons.mp hz with rfl | hz
          · exact .inr rfl
          rcases List.mem_cons.mp hz with rfl | hz
          · exact .inl rfl
          · rw [List.mem_singleton.mp hz]; exact .inr rfl
      omega
    have q1' : (decide (w = 1) && decide ((2 : Int) < c)) = true := by
      rw [decide_eq_true q1.1, decide_eq_true (show (2 : Int) < c by omega)]; rfl
    rw [q1'] at t1
    exact start (congrArg fbR (gSeq_ret ((gIf_t t1).trans ((gSeq_nx u1).trans ((gSeq_nx u2).trans ((gSeq_nx u3).trans u4))))))
  have q1' : (decide (w = 1) && decide ((2 : Int) < c)) = false := by
    by_cases z : w = 1
    · rw [decide_eq_false (show ¬ (2 : Int) < c by omega), Bool.and_false]
    · rw [decide_eq_false z, Bool.false_and]
  rw [q1'] at t1
  by_cases q2 : w = 2 ∧ r ≠ []
  · have hp : 0 < r.length := List.length_pos_iff.mpr q2.2
    have hm := fmod_at (p : Int) (show (0 : Int) < (r.length : Int) by omega)
    obtain ⟨k, hk⟩ : ∃ k : Nat, (p : Int).fmod (r.length : Int) = (k : Int) := ⟨((p : Int).fmod (r.length : Int)).toNat, by omega⟩
    rw [hk] at hm
    have kl : k < r.length := by omega
    have u1 : gSet 4 (f2 dMod (fCall dInt (fCons (fVar 4) fNil)) (fCall dLen (fCons (fVar 2) fNil))) ρ3 S3 = .nx (ρ3.set 4 (.val (.int k))) S3 := by
      rw [← hk]
      exact gSet_ok (f2_ok (fCall_ok (g := dInt) (cons1 (fVar_val rfl)) intI) (fCall_ok (cons1 (fVar_val rfl)) (dl _)) (modI (by omega)))
    have at1 : ∀ (ρ : Rho), ρ[2]? = some (.val (rowD true r)) → ρ[4]? = some (.val (.int k)) → f2S dIx (fVar 2) (fVar 4) ρ S3 = .ok (crD r[k]) S3 := fun ρ a2 a4 => f2S_ok (fVar_val a2) (fVar_val a4) (dIx_at (xs := r.map crD) rfl rfl (by rw [List.getElem?_map, List.getElem?_eq_getElem kl]; rfl))
    have ti := f2S_ok (g := dEqS) (f2S_ok (at1 (ρ3.set 4 (.val (.int k))) rfl rfl) (kI 0) (dIx_at (j := 0) (d := .str (sideS r[k].1)) rfl rfl rfl)) (kS "left") (d_eqS _ _ _)
    rw [side_left] at ti
    have u2 := gSet_ok (i := 5) (d := .str (sideS !r[k].1)) (fIf_ok (fa := fC (.str "right")) (fb := fC (.str "left")) (S2 := S3) ti (fun h => by rw [h]; rfl) (fun h => by rw [h]; rfl))
    have u3 := gRet_ok (near_sum (S := S3) (ρ := (ρ3.set 4 (.val (.int k))).set 5 (putSl (.str (sideS !r[k].1)))) (r := r) (m := [(!r[k].1, r[k].2)]) (p := k) (q := k + 1) (fp := fVar 4) (fq := f2 dAdd (fVar 4) (fC (.int 1))) (fm := fTup true (fCons (fTup true (fCons (fVarR 5) (fCons (f2S dIx (f2S dIx (fVar 2) (fVar 4)) (fC (.int 1))) fNil))) fNil)) rfl (fVar_val rfl) (fTup_ok (cons1 (fTup_ok (cons2 (fVarR_val rfl) (f2S_ok (at1 _ rfl rfl) (kI 1) (dIx_at (j := 1) (d := .int (r[k].2 : Nat)) rfl rfl rfl)))))) (f2_ok (fVar_val rfl) (kI 1) addI) (by omega) (by omega) (by omega) (by simp))
    refine ⟨_, n + 1 + 1 + 1, g3, okR (m := [(!r[k].1, r[k].2)]) (p := k) (q := k + 1) (by simp) (fun y hy => by rw [List.mem_singleton.mp hy]; exact hf r[k] (List.getElem_mem kl)), by omega, by omega, ?_⟩
    have q2' : (decide (w = 2) && !(r.map crD).isEmpty) = true := by
      rw [decide_eq_true q2.1]
      cases r with
      | nil => exact absurd rfl q2.2
      | cons a l => rfl
    rw [q2'] at t2
    exact start (congrArg fbR ((gSeq_nx (gIfN t1)).trans (gSeq_ret ((gIf_t t2).trans ((gSeq_nx u1).trans ((gSeq_nx u2).trans u3))))))
  have q2' : (decide (w = 2) && !(r.map crD).isEmpty) = false := by
    by_cases z : w = 2
    · have : r = [] := by
        by_cases y : r = []
        · exact y
        · exact absurd ⟨z, y⟩ q2
      rw [this]; exact Bool.and_false _
    · rw [decide_eq_false z, Bool.false_and]
  rw [q2'] at t2
  by_cases q3 : w = 3 ∧ 1 < r.length
  · have hm := fmod_at (p : Int) (show (0 : Int) < (r.length : Int) - 1 by omega)
    obtain ⟨k, hk⟩ : ∃ k : Nat, (p : Int).fmod ((r.length : Int) - 1) = (k : Int) := ⟨((p : Int).fmod ((r.length : Int) - 1)).toNat, by omega⟩
    rw [hk] at hm
    have kl : k < r.length := by omega
    have kl1 : k + 1 < r.length := by omega
    have u1 : gSet 4 (f2 dMod (fCall dInt (fCons (fVar 4) fNil)) (f2 dSub (fCall dLen (fCons (fVar 2) fNil)) (fC (.int 1)))) ρ3 S3 = .nx (ρ3.set 4 (.val (.int k))) S3 := by
      rw [← hk]
      exact gSet_ok (f2_ok (fCall_ok (g := dInt) (cons1 (fVar_val rfl)) intI) (f2_ok (fCall_ok (cons1 (fVar_val rfl)) (dl _)) (kI 1) subI) (modI (by omega)))
    have u3 := gRet_ok (near_sum (S := S3) (ρ := ρ3.set 4 (.val (.int k))) (r := r) (m := [r[k + 1], r[k]]) (p := k) (q := k + 2) (fp := fVar 4) (fq := f2 dAdd (fVar 4) (fC (.int 2))) (fm := fTup true (fCons (f2S dIx (fVar 2) (f2 dAdd (fVar 4) (fC (.int 1)))) (fCons (f2S dIx (fVar 2) (fVar 4)) fNil))) rfl (fVar_val rfl)
      (fTup_ok (cons2 (f2S_ok (fVar_val rfl) (f2_ok (fVar_val rfl) (kI 1) addI) (dIx_at (xs := r.map crD) (j := k + 1) rfl rfl (by rw [List.getElem?_map, List.getElem?_eq_getElem kl1]; rfl))) (f2S_ok (fVar_val rfl) (fVar_val rfl) (dIx_at (xs := r.map crD) (j := k) rfl rfl (by rw [List.getElem?_map, List.getElem?_eq_getElem kl]; rfl))))) (f2_ok (fVar_val rfl) (kI 2) addI) (by omega) (by omega) (by omega) (by simp))
    refine ⟨_, n + 1 + 1 + 1, g3, okR (m := [r[k + 1], r[k]]) (p := k) (q := k + 2) (by simp) (fun y hy => ?_), by omega, by omega, ?_⟩
    · rcases List.mem_cons.mp hy with rfl | hy
      · exact hf _ (List.getElem_mem kl1)
      · rw [List.mem_singleton.mp hy]; exact hf _ (List.getElem_mem kl)
    have q3' : (decide (w = 3) && decide ((1 : Int) < r.length)) = true := by
      rw [decide_eq_true q3.1, decide_eq_true (show (1 : Int) < r.length by omega)]; rfl
    rw [q3'] at t3
    exact start (congrArg fbR ((gSeq_nx (gIfN t1)).trans ((gSeq_nx (gIfN t2)).trans (gSeq_ret ((gIf_t t3).trans ((gSeq_nx u1).trans u3))))))
  have q3' : (decide (w = 3) && decide ((1 : Int) < r.length)) = false := by
    by_cases z : w = 3
    · rw [decide_eq_false (show ¬ (1 : Int) < r.length by omega), Bool.and_false]
    · rw [decide_eq_false z, Bool.false_and]
  rw [q3'] at t3
  have t4 := tk 4
  by_cases q4 : w = 4
  · refine ⟨r, n + 1 + 1 + 1, g3, ⟨c1, c2, by omega, hf⟩, by omega, by omega, ?_⟩
    refine start (congrArg fbR ((gSeq_nx (gIfN t1)).trans ((gSeq_nx (gIfN t2)).trans ((gSeq_nx (gIfN t3)).trans (gRet_ok (fIf_ok t4 (fun _ => fNl_ok (fVar_val rfl) rfl) (fun h => ?_)))))))
    rw [decide_eq_true q4] at h
    cases h
  · obtain ⟨r', n', g4, hr', l', m1, m2, h4⟩ := e_lawrow (T := T) (gs := g3) (n := n + 1 + 1 + 1) (c := c) hc (by omega) (by omega) c1 c2 (mo := 6) (by decide)
    refine ⟨r', n', g4, ⟨c1, c2, by omega, hr'⟩, by omega, by omega, ?_⟩
    refine start (congrArg fbR ((gSeq_nx (gIfN t1)).trans ((gSeq_nx (gIfN t2)).trans ((gSeq_nx (gIfN t3)).trans (gRet_ok (fIf_ok t4 (fun h => ?_) (fun _ => (fDef_ok (F := F_law_row) (cons3 (fVar_val rfl) (fVar_val rfl) (kI 6))).trans h4)))))))
    exact absurd (of_decide_eq_true h) q4
end
end K14

set_option Elab.async false
set_option linter.all false
set_option maxRecDepth 100000
/-! C3: k14's plain law: the dict of the pairs -/
namespace K14
open PySem PySem.Spec L2 QL
open PyProof.Rows hiding St cutD
/-- the pairs of c cords -/
def pairsL (c : Nat) : List (Int × Int) := (rgI c).flatMap fun a => (List.range (c - (a.toNat + 1))).map fun (k : Nat) => (a, a + 1 + (k : Int))
def kyP (p : Int × Int) : List Key := [.inl p.1, .inl p.2]
def pKl (l : List (Int × Int)) (f : Fs) : List (List Key × D) := l.map fun p => (kyP p, .int (f p))
def pKs (c : Nat) (f : Fs) : List (List Key × D) := pKl (pairsL c) f
theorem kyP_inj {p q : Int × Int} : kyP p = kyP q ↔ p = q := by
  constructor
  · intro h
    have h1 : (Sum.inl p.1 : Key) = .inl q.1 := (List.cons.inj h).1
    have h2 : (Sum.inl p.2 : Key) = .inl q.2 := (List.cons.inj (List.cons.inj h).2).1
    exact Prod.ext (Sum.inl.inj h1) (Sum.inl.inj h2)
  · intro h; rw [h]
theorem val_P {f : Fs} {p : Int × Int} : ∀ {l : List (Int × Int)}, p ∈ l → valD (pKl l f) (kyP p) = some (.int (f p))
  | x :: l, h => by
    unfold valD pKl
    rw [List.map_cons, List.find?_cons]
    by_cases e : x = p
    · subst e
      rw [decide_eq_true (show kyP x = kyP x from rfl)]
      rfl
    · rw [decide_eq_false (show ¬ kyP x = kyP p from fun q => e (kyP_inj.mp q))]
      rcases List.mem_cons.mp h with q | q
      · exact absurd q.symm e
      · exact val_P q
theorem put_P {f : Fs} {p : Int × Int} {v : Int} {l : List (Int × Int)} (h : p ∈ l) : putD (pKl l f) (kyP p) (.int v) = pKl l fun x => if x = p then v else f x := by
  have a : ((pKl l f).any fun kv => decide (kv.1 = kyP p)) = true := by
    rw [List.any_eq_true]
    exact ⟨_, List.mem_map.mpr ⟨p, h, rfl⟩, decide_eq_true rfl⟩
  unfold putD
  rw [if_pos a]
  unfold pKl
  rw [List.map_map]
  refine List.map_congr_left fun x _ => ?_
  show (if kyP x = kyP p then (kyP x, D.int v) else (kyP x, .int (f x))) = (kyP x, .int (if x = p then v else f x))
  by_cases e : x = p
  · rw [if_pos (kyP_inj.mpr e), if_pos e]
  · rw [if_neg fun q => e (kyP_inj.mp q), if_neg e]
theorem mem_pairs {c : Nat} {p : Int × Int} : p ∈ pairsL c ↔ p.1 ∈ rgI c ∧ p.2 ∈ rgI c ∧ p.1 < p.2 := by
  unfold pairsL
  rw [List.mem_flatMap]
  constructor
  · rintro ⟨a, ha, h⟩
    obtain ⟨k, hk, rfl⟩ := List.mem_map.mp h
    have h1 := rg_mem.mp ha
    have h2 := List.mem_range.mp hk
    exact ⟨ha, rg_mem.mpr ⟨by show 0 ≤ a + 1 + (k : Int); omega, by show a + 1 + (k : Int) < c; omega⟩, by show a < a + 1 + (k : Int); omega⟩
  · rintro ⟨h1, h2, h3⟩
    obtain ⟨a, b⟩ := p
    have h1' := rg_mem.mp h1
    have h2' := rg_mem.mp h2
    have h3' : a < b := h3
    simp only at h1' h2'
    refine ⟨a, h1, List.mem_map.mpr ⟨(b - a - 1).toNat, List.mem_range.mpr (by omega), Prod.ext rfl ?_⟩⟩
    show a + 1 + (((b - a - 1).toNat : Nat) : Int) = b
    omega
theorem key_mem {c : Nat} {m : Mt} (h1 : m.1 ∈ rgI c) (h2 : m.2.1 ∈ rgI c) (n : m.1 ≠ m.2.1) : keyM m ∈ pairsL c := by
  refine mem_pairs.mpr ?_
  unfold keyM
  by_cases lt : m.1 < m.2.1
  · rw [if_pos lt]; exact ⟨h1, h2, lt⟩
  · rw [if_neg lt]; exact ⟨h2, h1, by show m.2.1 < m.1; omega⟩
theorem pairs_up {c : Nat} (h1 : 2 ≤ c) (h2 : c ≤ 5) : keysUp ((pairsL c).map kyP) = true ∧ (pairsL c).length ≤ 10 := by
  rcases (show c = 2 ∨ c = 3 ∨ c = 4 ∨ c = 5 by omega) with rfl | rfl | rfl | rfl <;> exact ⟨by decide +kernel, by decide +kernel⟩
/-! the store's end -/
theorem get_end (S : Sto) (o : MO) : (S ++ [o])[S.length]? = some o := by
  rw [List.getElem?_append_right (Nat.le_refl _), Nat.sub_self]; rfl
theorem set_end (S : Sto) (o o' : MO) : (S ++ [o]).set S.length o' = S ++ [o'] := by
  rw [List.set_append_right _ _ (Nat.le_refl _), Nat.sub_self]; rfl
/-! the first loops -/
def putZ (i : Int) (kvs : List (List Key × D)) (j : Int) : List (List Key × D) := putD kvs [.inl i, .inl j] (.int 0)
def rgT (c : Nat) (i : Int) : List Int := (List.range ((c : Int) - (i + 1)).toNat).map fun (k : Nat) => i + 1 + (k : Int)
def zeroK (c : Nat) : List (List Key × D) := (rgI c).foldl (fun kvs i => (rgT c i).foldl (putZ i) kvs) []
theorem put_len (kvs : List (List Key × D)) (k : List Key) (d : D) : (putD kvs k d).length ≤ kvs.length + 1 := by
  unfold putD
  by_cases h : (kvs.any fun kv => decide (kv.1 = k)) = true
  · rw [if_pos h, List.length_map]; omega
  · rw [if_neg h, List.length_append, List.length_singleton]; omega
theorem zeroK_eq {c : Nat} (h1 : 2 ≤ c) (h2 : c ≤ 5) : zeroK c = pKs c f0 := by
  rcases (show c = 2 ∨ c = 3 ∨ c = 4 ∨ c = 5 by omega) with rfl | rfl | rfl | rfl <;> kernel_rfl
section
variable {S : Sto} {c : Nat} {r : List Cr} {s0 s1 : Sl} {ss : List Sl} {kvs : List (List Key × D)}
abbrev zBody : Gx := gAs (fC (.int 0)) (tfKey (fVar 2) (fCons (fVarR 3) (fCons (fVarR 4) fNil)))
theorem put_at (h : kvs.length < 1000000) (k : List Key) (d : D) : putT (S ++ [.dctT kvs]) S.length k d = some (S ++ [.dctT (putD kvs k d)]) := by
  unfold putT
  rw [get_end]
  simp only [if_pos h, set_end]
theorem z_step (i j : Int) (h : kvs.length < 1000000) : zBody (s0 :: s1 :: .val (.ref S.length) :: .val (.int i) :: .val (.int j) :: ss) (S ++ [.dctT kvs]) = .nx (s0 :: s1 :: .val (.ref S.length) :: .val (.int i) :: .val (.int j) :: ss) (S ++ [.dctT (putZ i kvs j)]) := by
  refine gAs_ok (d := .int 0) rfl ?_
  have e : (keysD [.int i, .int j]).bind (fun k => putT (S ++ [.dctT kvs]) S.length k (.int 0)) = some (S ++ [.dctT (putZ i kvs j)]) := put_at h _ _
  show (match (keysD [.int i, .int j]).bind (fun k => putT (S ++ [.dctT kvs]) S.length k (.int 0)) with
      | some S3 => if ([D.int i, .int j] : List D).length ≤ 1000000 then SRes.nx _ S3 else .stuck
      | none => .stuck) = _
  rw [e]
  rfl
theorem z_inner (i : Int) : ∀ (js : List Int) (kvs : List (List Key × D)) (s : Sl), kvs.length + js.length < 1000000 → ∃ s', forG (tfOf (tnName 4)) zBody (js.map D.int) (s0 :: s1 :: .val (.ref S.length) :: .val (.int i) :: s :: ss) (S ++ [.dctT kvs]) = .nx (s0 :: s1 :: .val (.ref S.length) :: .val (.int i) :: s' :: ss) (S ++ [.dctT (js.foldl (putZ i) kvs)]) ∧ (js.foldl (putZ i) kvs).length ≤ kvs.length + js.length
  | [], kvs, s, _ => ⟨s, rfl, Nat.le_refl _⟩
  | j :: js, kvs, s, h => by
    rw [List.length_cons] at h
    have l := put_len kvs [.inl i, .inl j] (.int 0)
    obtain ⟨s', e, l2⟩ := z_inner i js (putZ i kvs j) (.val (.int j)) (by unfold putZ; omega)
    refine ⟨s', ?_, ?_⟩
    · rw [List.map_cons, forG_cons (ρ1 := s0 :: s1 :: .val (.ref S.length) :: .val (.int i) :: .val (.int j) :: ss) rfl (z_step i j (by omega))]
      exact e
    · rw [List.length_cons]
      have : (putZ i kvs j).length ≤ kvs.length + 1 := l
      have e2 : (j :: js).foldl (putZ i) kvs = js.foldl (putZ i) (putZ i kvs j) := rfl
      rw [e2]
      omega
abbrev zOut : Gx := gFor (fRange2 (fCons (f2 dAdd (fVar 3) (fC (.int 1))) (fCons (fVar 0) fNil))) (tfOf (tnName 4)) zBody
theorem rgT_len (c : Nat) {i : Int} (h : 0 ≤ i) : (rgT c i).length ≤ c := by
  unfold rgT
  rw [List.length_map, List.length_range]
  omega
theorem rg2_at {i : Int} {ρ : Rho} {S : Sto} (h0 : ρ[0]? = some (.val (.int c))) (h3 : ρ[3]? = some (.val (.int i))) (hc : c ≤ 5) (hi : 0 ≤ i) (hi2 : i < 5) : fRange2 (fCons (f2 dAdd (fVar 3) (fC (.int 1))) (fCons (fVar 0) fNil)) ρ S = .ok ((rgT c i).map D.int) S := by
  unfold fRange2
  rw [cons2 (f2_ok (fVar_val h3) (kI 1) addI) (fVar_val h0)]
  show aOf (rg2 [.int (i + 1), .int c]) S = _
  rw [rg2, if_pos ⟨by omega, by omega, by omega, by omega⟩]
  unfold rgD rgT
  rw [List.map_map]
  rfl
theorem z_outer (hc : c ≤ 5) : ∀ (is : List Int) (kvs : List (List Key × D)) (t s : Sl), (∀ i ∈ is, 0 ≤ i ∧ i < 5) → kvs.length + 5 * is.length < 1000000 → ∃ t' s', forG (tfOf (tnName 3)) zOut (is.map D.int) (.val (.int c) :: s1 :: .val (.ref S.length) :: t :: s :: ss) (S ++ [.dctT kvs]) = .nx (.val (.int c) :: s1 :: .val (.ref S.length) :: t' :: s' :: ss) (S ++ [.dctT (is.foldl (fun kvs i => (rgT c i).foldl (putZ i) kvs) kvs)])
  | [], kvs, t, s, _, _ => ⟨t, s, rfl⟩
  | i :: is, kvs, t, s, hi, h => by
    rw [List.length_cons] at h
    have i0 := hi i List.mem_cons_self
    have lr := rgT_len c i0.1
    obtain ⟨s', e, l2⟩ := z_inner (S := S) (s0 := .val (.int c)) (s1 := s1) (ss := ss) i (rgT c i) kvs s (by omega)
    obtain ⟨t2, s2, e2⟩ := z_outer hc is ((rgT c i).foldl (putZ i) kvs) (.val (.int i)) s' (fun j hj => hi j (List.mem_cons_of_mem _ hj)) (by omega)
    refine ⟨t2, s2, ?_⟩
    rw [List.map_cons, forG_cons (ρ1 := .val (.int c) :: s1 :: .val (.ref S.length) :: .val (.int i) :: s :: ss) rfl ((gFor_ok (rg2_at rfl rfl hc i0.1 i0.2)).trans e)]
    exact e2
theorem z_all (h1 : 2 ≤ c) (h2 : c ≤ 5) (t s : Sl) : ∃ t' s', gFor (fRange1 (fCons (fVar 0) fNil)) (tfOf (tnName 3)) zOut (.val (.int c) :: s1 :: .val (.ref S.length) :: t :: s :: ss) (S ++ [.dctT []]) = .nx (.val (.int c) :: s1 :: .val (.ref S.length) :: t' :: s' :: ss) (S ++ [.dctT (pKs c f0)]) := by
  obtain ⟨t', s', e⟩ := z_outer (S := S) (s1 := s1) (ss := ss) h2 (rgI c) [] t s (fun i hi => by have := rg_mem.mp hi; omega) (by rw [rg_len]; simp; omega)
  refine ⟨t', s', ?_⟩
  rw [gFor_ok (rg_for rfl h2), e, ← zeroK_eq h1 h2]
  rfl
/-! the meetings -/
theorem pKs_len (h1 : 2 ≤ c) (h2 : c ≤ 5) (f : Fs) : (pKs c f).length ≤ 10 := by
  unfold pKs pKl
  rw [List.length_map]
  exact (pairs_up h1 h2).2
theorem up_eq (f : Fs) (m : Mt) : (fun x => if x = keyM m then f (keyM m) + sgn m.2.2 else f x) = updP f m := by
  funext x
  unfold updP
  by_cases e : x = keyM m
  · rw [if_pos e, if_pos e, e]
  · rw [if_neg e, if_neg e]
theorem get_T (p : Int × Int) (hp : p ∈ pairsL c) (f : Fs) (z : Bool) : dGetT (S ++ [.dctT (pKs c f)]) (.ref S.length) (.tup z [.int p.1, .int p.2]) = some (.int (f p)) := by
  unfold dGetT
  simp only [get_end, Option.bind_some]
  show (dKeys (.tup z [.int p.1, .int p.2])).bind (valD (pKs c f)) = _
  exact val_P hp
theorem getv (p : Int × Int) (hp : p ∈ pairsL c) (f : Fs) : ((((S ++ [.dctT (pKs c f)])[S.length]?).bind moT).bind fun kvs => valD kvs (kyP p)) = some (.int (f p)) := by
  rw [get_end]
  exact val_P hp
theorem put_T (h1 : 2 ≤ c) (h2 : c ≤ 5) (p : Int × Int) (hp : p ∈ pairsL c) (f : Fs) (v : Int) : putT (S ++ [.dctT (pKs c f)]) S.length (kyP p) (.int v) = some (S ++ [.dctT (pKs c fun x => if x = p then v else f x)]) := by
  rw [put_at (by have := pKs_len h1 h2 f; omega)]
  unfold pKs
  rw [put_P hp]
abbrev pBody : Gx := gAugT (fVar 2) (fTup true (fCons (fCall dMin2 (fCons (fVar 5) (fCons (fVar 6) fNil))) (fCons (fCall dMax2 (fCons (fVar 5) (fCons (fVar 6) fNil))) fNil))) (fVar 7) dIadd
abbrev meetT : Tf := tfOf (tnTup 3 (tnCons (tnName 5) (tnCons (tnName 6) (tnCons (tnName 7) tnNil))))
theorem mm_eq (m : Mt) (n : m.1 ≠ m.2.1) : (if m.2.1 < m.1 then m.2.1 else m.1) = (keyM m).1 ∧ (if m.2.1 > m.1 then m.2.1 else m.1) = (keyM m).2 := by
  unfold keyM
  by_cases lt : m.1 < m.2.1
  · rw [if_pos lt, if_neg (by omega), if_pos lt]; exact ⟨rfl, rfl⟩
  · rw [if_neg lt, if_pos (by omega), if_neg (by omega)]; exact ⟨rfl, rfl⟩
theorem p_step (h1 : 2 ≤ c) (h2 : c ≤ 5) (f : Fs) (m : Mt) (hk : keyM m ∈ pairsL c) (n : m.1 ≠ m.2.1) (t s : Sl) (S : Sto) :
    pBody (s0 :: s1 :: .val (.ref S.length) :: t :: s :: .val (.int m.1) :: .val (.int m.2.1) :: .val (.int (sgn m.2.2)) :: ss) (S ++ [.dctT (pKs c f)]) = .nx (s0 :: s1 :: .val (.ref S.length) :: t :: s :: .val (.int m.1) :: .val (.int m.2.1) :: .val (.int (sgn m.2.2)) :: ss) (S ++ [.dctT (pKs c (updP f m))]) := by
  let ρ : Rho := s0 :: s1 :: .val (.ref S.length) :: t :: s :: .val (.int m.1) :: .val (.int m.2.1) :: .val (.int (sgn m.2.2)) :: ss
  let S1 : Sto := S ++ [.dctT (pKs c f)]
  have mm := mm_eq m n
  have e1 : fTup true (fCons (fCall dMin2 (fCons (fVar 5) (fCons (fVar 6) fNil))) (fCons (fCall dMax2 (fCons (fVar 5) (fCons (fVar 6) fNil))) fNil)) ρ S1 = .ok (.tup true [.int (keyM m).1, .int (keyM m).2]) S1 := by
    rw [← mm.1, ← mm.2]
    exact fTup_ok (cons2 (fCall_ok (cons2 (fVar_val (i := 5) rfl) (fVar_val (i := 6) rfl)) rfl) (fCall_ok (cons2 (fVar_val (i := 5) rfl) (fVar_val (i := 6) rfl)) rfl))
  unfold pBody gAugT
  rw [show fVar 2 ρ S1 = .ok (.ref S.length) S1 from fVar_val rfl]
  simp only [thenG]
  rw [e1]
  simp only [thenG]
  have dk : dKeys (.tup true [.int (keyM m).1, .int (keyM m).2]) = some (kyP (keyM m)) := rfl
  rw [dk]
  simp only
  rw [show (((S1[S.length]?).bind moT).bind fun kvs => valD kvs (kyP (keyM m))) = some (.int (f (keyM m))) from getv _ hk f]
  simp only
  rw [show fVar 7 ρ S1 = .ok (.int (sgn m.2.2)) S1 from fVar_val rfl]
  simp only [thenG]
  rw [show dIadd (.int (f (keyM m))) (.int (sgn m.2.2)) = some (.int (f (keyM m) + sgn m.2.2)) from rfl]
  simp only
  rw [show (((S1[S.length]?).bind moT).bind fun kvs => valD kvs (kyP (keyM m))) = some (.int (f (keyM m))) from getv _ hk f]
  simp only [Option.isSome_some, if_true]
  rw [show putT S1 S.length (kyP (keyM m)) (.int (f (keyM m) + sgn m.2.2)) = some (S ++ [.dctT (pKs c fun x => if x = keyM m then f (keyM m) + sgn m.2.2 else f x)]) from put_T h1 h2 _ hk f _, up_eq]
theorem p_loop (h1 : 2 ≤ c) (h2 : c ≤ 5) (t s : Sl) (S : Sto) : ∀ (ms : List Mt) (f : Fs) (a b d : Sl), (∀ m ∈ ms, keyM m ∈ pairsL c ∧ m.1 ≠ m.2.1) → ∃ a' b' d',
    forG meetT pBody (ms.map metD) (s0 :: s1 :: .val (.ref S.length) :: t :: s :: a :: b :: d :: ss) (S ++ [.dctT (pKs c f)]) = .nx (s0 :: s1 :: .val (.ref S.length) :: t :: s :: a' :: b' :: d' :: ss) (S ++ [.dctT (pKs c (pnF f ms))])
  | [], f, a, b, d, _ => ⟨a, b, d, rfl⟩
  | m :: ms, f, a, b, d, h => by
    have hm := h m List.mem_cons_self
    obtain ⟨a', b', d', e⟩ := p_loop h1 h2 t s S ms (updP f m) (.val (.int m.1)) (.val (.int m.2.1)) (.val (.int (sgn m.2.2))) fun x hx => h x (List.mem_cons_of_mem _ hx)
    refine ⟨a', b', d', ?_⟩
    rw [List.map_cons, forG_cons (ρ1 := s0 :: s1 :: .val (.ref S.length) :: t :: s :: .val (.int m.1) :: .val (.int m.2.1) :: .val (.int (sgn m.2.2)) :: ss) rfl (p_step h1 h2 f m hm.1 hm.2 t s S)]
    exact e
theorem met_keys (h : RowOk c r) : ∀ m ∈ metF (rgI c) r, keyM m ∈ pairsL c ∧ m.1 ≠ m.2.1 := fun m hm => by
  have n := met_ne r _ (nodup_rg c) h.fits m hm
  have k := met_mem r (rgI c) h.fits m hm
  exact ⟨key_mem k.1 k.2 n, n⟩
theorem e_pair_in (z : Bool) (h : RowOk c r) : F_pair_in [.int c, rowD z r] S = .ok (.ref S.length) (S ++ [.dctT (pKs c (pr c r))]) := by
  have e0 : F_pair_in [.int c, rowD z r] S = fbR (g_pair_in [.val (.int c), .val (rowD z r), .emp, .emp, .emp, .emp, .emp, .emp] S) := (def0_fb (by rfl)).trans rfl
  have s1 : gSetR 2 fDNewT [.val (.int c), .val (rowD z r), .emp, .emp, .emp, .emp, .emp, .emp] S = .nx [.val (.int c), .val (rowD z r), .val (.ref S.length), .emp, .emp, .emp, .emp, .emp] (S ++ [.dctT []]) := gSetR_ok rfl
  obtain ⟨t, s, s2⟩ := z_all (S := S) (s1 := .val (rowD z r)) (ss := [.emp, .emp, .emp]) h.1 h.2.1 .emp .emp
  obtain ⟨a', b', d', s3⟩ := p_loop (s0 := .val (.int c)) (s1 := .val (rowD z r)) (ss := []) h.1 h.2.1 t s S (metF (rgI c) r) f0 .emp .emp .emp (met_keys h)
  have it : fItems (fDef F_met_in (fCons (fVar 0) (fCons (fVar 1) fNil))) [.val (.int c), .val (rowD z r), .val (.ref S.length), t, s, .emp, .emp, .emp] (S ++ [.dctT (pKs c f0)]) = .ok ((metF (rgI c) r).map metD) (S ++ [.dctT (pKs c f0)]) := by
    unfold fItems
    rw [(fDef_ok (cons2 (fVar_val rfl) (fVar_val rfl))).trans (e_met_in z h)]
    rfl
  rw [e0]
  unfold g_pair_in
  refine (congrArg fbR (gSeq_nx s1)).trans ?_
  refine (congrArg fbR (gSeq_nx s2)).trans ?_
  refine (congrArg fbR (gSeq_nx ((gFor_ok it).trans s3))).trans ?_
  refine (congrArg fbR (gRetV_val rfl rfl)).trans ?_
  rfl
/-! the law's own -/
abbrev qBody : Gx := (gSeq (gSet 8 (fIf (f2 dLtI (fVar 5) (fVar 6)) (fTup true (fCons (fVarR 5) (fCons (fVarR 6) fNil))) (fTup true (fCons (fVarR 6) (fCons (fVarR 5) fNil)))))
    (gAs (f2 dAdd (f2S dGetT (fVar 2) (fVar 8)) (fVar 7)) (tfKeyV (fVar 2) (fVar 8))))
theorem q_step (h1 : 2 ≤ c) (h2 : c ≤ 5) (f : Fs) (m : Mt) (hk : keyM m ∈ pairsL c) (t s k : Sl) (S : Sto) : ∃ k',
    qBody (s0 :: s1 :: .val (.ref S.length) :: t :: s :: .val (.int m.1) :: .val (.int m.2.1) :: .val (.int (sgn m.2.2)) :: k :: ss) (S ++ [.dctT (pKs c f)]) = .nx (s0 :: s1 :: .val (.ref S.length) :: t :: s :: .val (.int m.1) :: .val (.int m.2.1) :: .val (.int (sgn m.2.2)) :: k' :: ss) (S ++ [.dctT (pKs c (updP f m))]) := by
  let ρ : Rho := s0 :: s1 :: .val (.ref S.length) :: t :: s :: .val (.int m.1) :: .val (.int m.2.1) :: .val (.int (sgn m.2.2)) :: k :: ss
  let S1 : Sto := S ++ [.dctT (pKs c f)]
  let kd : D := .tup true [.int (keyM m).1, .int (keyM m).2]
  let ρ2 : Rho := s0 :: s1 :: .val (.ref S.length) :: t :: s :: .val (.int m.1) :: .val (.int m.2.1) :: .val (.int (sgn m.2.2)) :: .val kd :: ss
  have e1 : gSet 8 (fIf (f2 dLtI (fVar 5) (fVar 6)) (fTup true (fCons (fVarR 5) (fCons (fVarR 6) fNil))) (fTup true (fCons (fVarR 6) (fCons (fVarR 5) fNil)))) ρ S1 = .nx ρ2 S1 := by
    refine gSet_ok (d := kd) (fIf_ok (b := decide (m.1 < m.2.1)) (f2_ok (fVar_val rfl) (fVar_val rfl) rfl) (fun q => ?_) (fun q => ?_))
    · have : kd = .tup true [.int m.1, .int m.2.1] := by show D.tup true [.int (keyM m).1, .int (keyM m).2] = _; unfold keyM; rw [if_pos (of_decide_eq_true q)]
      rw [this]
      exact fTup_ok (cons2 (fVarR_val rfl) (fVarR_val rfl))
    · have : kd = .tup true [.int m.2.1, .int m.1] := by show D.tup true [.int (keyM m).1, .int (keyM m).2] = _; unfold keyM; rw [if_neg (of_decide_eq_false q)]
      rw [this]
      exact fTup_ok (cons2 (fVarR_val rfl) (fVarR_val rfl))
  refine ⟨.val kd, (gSeq_nx e1).trans (gAs_ok (f2_ok (f2S_ok (fVar_val rfl) (fVar_val rfl) (get_T (keyM m) hk f true)) (fVar_val rfl) addI) ?_)⟩
  unfold tfKeyV
  rw [show fVar 2 ρ2 S1 = .ok (.ref S.length) S1 from fVar_val rfl]
  simp only [thenG]
  rw [show fVar 8 ρ2 S1 = .ok kd S1 from fVar_val rfl]
  simp only [thenG]
  have dk : dKeys kd = some (kyP (keyM m)) := rfl
  rw [dk]
  simp only [Option.bind_some]
  rw [show ((((S1[S.length]?).bind moT).bind fun kvs => valD kvs (kyP (keyM m)))) = some (.int (f (keyM m))) from getv _ hk f]
  simp only [Option.isSome_some, if_true]
  rw [show putT S1 S.length (kyP (keyM m)) (.int (f (keyM m) + sgn m.2.2)) = some (S ++ [.dctT (pKs c fun x => if x = keyM m then f (keyM m) + sgn m.2.2 else f x)]) from put_T h1 h2 _ hk f _, up_eq]
theorem q_loop (h1 : 2 ≤ c) (h2 : c ≤ 5) (t s : Sl) (S : Sto) : ∀ (ms : List Mt) (f : Fs) (a b d k : Sl), (∀ m ∈ ms, keyM m ∈ pairsL c ∧ m.1 ≠ m.2.1) → ∃ a' b' d' k',
    forG meetT qBody (ms.map metD) (s0 :: s1 :: .val (.ref S.length) :: t :: s :: a :: b :: d :: k :: ss) (S ++ [.dctT (pKs c f)]) = .nx (s0 :: s1 :: .val (.ref S.length) :: t :: s :: a' :: b' :: d' :: k' :: ss) (S ++ [.dctT (pKs c (pnF f ms))])
  | [], f, a, b, d, k, _ => ⟨a, b, d, k, rfl⟩
  | m :: ms, f, a, b, d, k, h => by
    have hm := h m List.mem_cons_self
    obtain ⟨k1, e1⟩ := q_step (s0 := s0) (s1 := s1) (ss := ss) h1 h2 f m hm.1 t s k S
    obtain ⟨a', b', d', k', e⟩ := q_loop h1 h2 t s S ms (updP f m) (.val (.int m.1)) (.val (.int m.2.1)) (.val (.int (sgn m.2.2))) k1 fun x hx => h x (List.mem_cons_of_mem _ hx)
    refine ⟨a', b', d', k', ?_⟩
    rw [List.map_cons, forG_cons (ρ1 := s0 :: s1 :: .val (.ref S.length) :: t :: s :: .val (.int m.1) :: .val (.int m.2.1) :: .val (.int (sgn m.2.2)) :: k :: ss) rfl e1]
    exact e
theorem l_pairs (z : Bool) (h : RowOk c r) : F_law_pairs [.int c, rowD z r] S = .ok (.ref S.length) (S ++ [.dctT (pKs c (pr c r))]) := by
  have e0 : F_law_pairs [.int c, rowD z r] S = fbR (g_law_pairs [.val (.int c), .val (rowD z r), .emp, .emp, .emp, .emp, .emp, .emp, .emp] S) := (def0_fb (by rfl)).trans rfl
  have s1 : gSetR 2 fDNewT [.val (.int c), .val (rowD z r), .emp, .emp, .emp, .emp, .emp, .emp, .emp] S = .nx [.val (.int c), .val (rowD z r), .val (.ref S.length), .emp, .emp, .emp, .emp, .emp, .emp] (S ++ [.dctT []]) := gSetR_ok rfl
  obtain ⟨t, s, s2⟩ := z_all (S := S) (s1 := .val (rowD z r)) (ss := [.emp, .emp, .emp, .emp]) h.1 h.2.1 .emp .emp
  obtain ⟨a', b', d', k', s3⟩ := q_loop (s0 := .val (.int c)) (s1 := .val (rowD z r)) (ss := []) h.1 h.2.1 t s S (metF (rgI c) r) f0 .emp .emp .emp .emp (met_keys h)
  have it : fItems (f2S dIx (fDef F_law_walk (fCons (fVar 0) (fCons (fVar 1) fNil))) (fC (.int 0))) [.val (.int c), .val (rowD z r), .val (.ref S.length), t, s, .emp, .emp, .emp, .emp] (S ++ [.dctT (pKs c f0)]) = .ok ((metF (rgI c) r).map metD) (S ++ [.dctT (pKs c f0)]) := by
    unfold fItems
    rw [f2S_ok ((fDef_ok (cons2 (fVar_val rfl) (fVar_val rfl))).trans (l_walk z h)) (kI 0) (dIx_at (j := 0) (d := .lst ((metF (rgI c) r).map metD)) rfl rfl rfl)]
    rfl
  rw [e0]
  unfold g_law_pairs
  refine (congrArg fbR (gSeq_nx s1)).trans ?_
  refine (congrArg fbR (gSeq_nx s2)).trans ?_
  refine (congrArg fbR (gSeq_nx ((gFor_ok it).trans s3))).trans ?_
  refine (congrArg fbR (gRetV_val rfl rfl)).trans ?_
  rfl
end
end K14

set_option Elab.async false
set_option linter.all false
set_option maxRecDepth 100000
/-! C4: k14's plain law: the store of forms -/
namespace K14
open PySem PySem.Spec L2 QL
open PyProof.Rows hiding St cutD
/-- the customs that count: began, twice; and never -/
inductive Cu where
  | be | tw | ne
def nmC : Cu → Str
  | .be => "began"
  | .tw => "twice"
  | .ne => "never"
def mdC : Cu → Bool
  | .tw => true
  | _ => false
def red (md : Bool) (i : Int) : Int := if md = true then i % 2 else i
def rq (md : Bool) (q : Qs) : Qs := fun u o => red md (q u o)
/-- a cord with its counts -/
def kD (z : Bool) (q : Qs) (c : Nat) (v : Int) : D := .tup true [.tup z ((rgI c).map fun o => .int (q v o)), .int v]
theorem red_red (md : Bool) (i s : Int) : red md (red md i + s) = red md (i + s) := by
  unfold red
  cases md
  · rfl
  · show (i % 2 + s) % 2 = (i + s) % 2
    omega
theorem red_0 (md : Bool) : red md 0 = 0 := by cases md <;> rfl
section
variable {S : Sto} {ρ : Rho} {c n t : Nat} {r : List Cr} {cu : Cu} {l : List Int} {x : Cr} {d e : D} {fi fv : Fx} {i : Nat}
theorem in_terms (cu : Cu) (S : Sto) : dIn S (.str (nmC cu)) (.tup true [.str "any", .str "back"]) = some (.bl false) := by
  have h : SeqAt.shaped (D.py (.str (nmC cu))) = true ∧ PyData.canLayAll0 (D.pys [.str "any", .str "back"]) = true ∧ ((D.pys [.str "any", .str "back"]).any fun z => PyData.eqv z (D.py (.str (nmC cu)))) = false := by
    cases cu <;> decide +kernel
  simp only [dIn, D.res, D.items, Option.bind_some, h.1, h.2.1, h.2.2, and_self, if_true]
theorem nin_terms (cu : Cu) (S : Sto) : dNin S (.str (nmC cu)) (.tup true [.str "any", .str "back"]) = some (.bl true) := by
  have h : SeqAt.shaped (D.py (.str (nmC cu))) = true ∧ PyData.canLayAll0 (D.pys [.str "any", .str "back"]) = true ∧ ((D.pys [.str "any", .str "back"]).any fun z => PyData.eqv z (D.py (.str (nmC cu)))) = false := by
    cases cu <;> decide +kernel
  simp only [dNin, D.res, D.items, Option.bind_some, h.1, h.2.1, h.2.2, and_self, if_true, Bool.not_false]
def isCnt : Cu → Bool
  | .ne => false
  | _ => true
theorem in_counts (cu : Cu) (S : Sto) : dIn S (.str (nmC cu)) (.tup true [.str "began", .str "twice"]) = some (.bl (isCnt cu)) := by
  have h : SeqAt.shaped (D.py (.str (nmC cu))) = true ∧ PyData.canLayAll0 (D.pys [.str "began", .str "twice"]) = true ∧ ((D.pys [.str "began", .str "twice"]).any fun z => PyData.eqv z (D.py (.str (nmC cu)))) = isCnt cu := by
    cases cu <;> decide +kernel
  simp only [dIn, D.res, D.items, Option.bind_some, h.1, h.2.1, h.2.2, and_self, if_true]
theorem nin_customs (cu : Cu) (S : Sto) : dNin S (.str (nmC cu)) (.tup true [.str "any", .str "back", .str "through", .str "began", .str "twice", .str "never"]) = some (.bl false) := by
  have h : SeqAt.shaped (D.py (.str (nmC cu))) = true ∧ PyData.canLayAll0 (D.pys [.str "any", .str "back", .str "through", .str "began", .str "twice", .str "never"]) = true ∧ ((D.pys [.str "any", .str "back", .str "through", .str "began", .str "twice", .str "never"]).any fun z => PyData.eqv z (D.py (.str (nmC cu)))) = true := by
    cases cu <;> decide +kernel
  simp only [dNin, D.res, D.items, Option.bind_some, h.1, h.2.1, h.2.2, and_self, if_true, Bool.not_true]
theorem is_through (cu : Cu) : decide (nmC cu = "through") = false := by cases cu <;> decide +kernel
theorem is_never (cu : Cu) : decide (nmC cu = "never") = !isCnt cu := by cases cu <;> decide +kernel
theorem is_twice (cu : Cu) : decide (nmC cu = "twice") = mdC cu := by cases cu <;> decide +kernel
theorem e_need_custom (cu : Cu) (S : Sto) : F_need_custom [.str (nmC cu)] S = .ok (.str (nmC cu)) S := by
  have e0 : F_need_custom [.str (nmC cu)] S = fbR (g_need_custom [.val (.str (nmC cu))] S) := (def0_fb (by rfl)).trans rfl
  have i0 : dIsi "str" S (.str (nmC cu)) = some (.bl true) := rfl
  rw [e0]
  unfold g_need_custom
  rw [gSeq_nx (gIfN ((fOr_f (fNot_ok (f1S_ok (fVar_val (i := 0) rfl) i0))).trans (f2S_ok (fVar_val (i := 0) rfl) rfl (nin_customs cu S)))), gRetV_val rfl rfl]
  rfl
/-- the object -/
def fsF (c : Nat) (cu : Cu) (t : Nat) : List (Str × D) := [("own_cords", .int c), ("own_custom", .str (nmC cu)), ("own_table", .ref t)]
def Is (S : Sto) (n c : Nat) (cu : Cu) : Prop := ∃ t, S[n]? = some (.ins "FormStore" (fsF c cu t))
theorem fld_custom (h : Is S n c cu) : dFld "FormStore" "own_custom" S (.ref n) = some (.str (nmC cu)) := by
  obtain ⟨t, h⟩ := h
  unfold dFld
  simp only [h]
  rfl
theorem fld_cords (h : Is S n c cu) : dFld "FormStore" "own_cords" S (.ref n) = some (.int c) := by
  obtain ⟨t, h⟩ := h
  unfold dFld
  simp only [h]
  rfl
theorem meth_ok {m : Str} {F : List D → Sto → Res} {fo : Fx} {a : Ax} {ds : List D} (h : Is S n c cu) (ho : fo ρ S = .ok (.ref n) S) (ha : a ρ S = .ok ds S) (hm : ∀ t, (fsF c cu t).lookup m = none) : fMeth "FormStore" m F fo a ρ S = F (.ref n :: ds) S := by
  obtain ⟨t, h⟩ := h
  unfold fMeth
  rw [ho]
  simp only [Res.bind, h, hm t, and_self, if_true]
  rw [ha]
  rfl
theorem gAugL_ok {ds : List D} {op : D → D → Option D} {j : Nat} {x y z : D} (h0 : ρ[i]? = some (.own ds)) (hi : fi ρ S = .ok (.int j) S) (hx : ds[j]? = some x) (hv : fv ρ S = .ok y S) (ho : op x y = some z) : gAugL i fi fv op ρ S = .nx (ρ.set i (.own (ds.set j z))) S := by
  unfold gAugL
  rw [h0]
  simp only
  rw [hi]
  simp only [thenG]
  rw [ixN_nat (List.getElem?_eq_some_iff.mp hx).1]
  simp only [hx]
  rw [hv]
  simp only [thenG, ho]
theorem set_rg {g : Int → D} {v : Int} (hv : v ∈ rgI c) : ((rgI c).map g).set v.toNat d = (rgI c).map fun o => if o = v then d else g o := by
  have h := rg_mem.mp hv
  refine List.ext_getElem? fun k => ?_
  by_cases hk : k < c
  · rw [List.getElem?_map, rg_get hk]
    by_cases e : k = v.toNat
    · rw [e, List.getElem?_set_self (by rw [List.length_map, rg_len]; omega)]
      show some d = some (if ((v.toNat : Nat) : Int) = v then d else g _)
      rw [if_pos (by omega)]
    · rw [List.getElem?_set_ne (fun q => e q.symm), List.getElem?_map, rg_get hk]
      show some (g k) = some (if ((k : Nat) : Int) = v then d else g k)
      rw [if_neg (by omega)]
  · rw [List.getElem?_eq_none (by rw [List.length_set, List.length_map, rg_len]; omega), List.getElem?_eq_none (by rw [List.length_map, rg_len]; omega)]
theorem get_rg {g : Int → D} {v : Int} (hv : v ∈ rgI c) : ((rgI c).map g)[v.toNat]? = some (g v) := by
  have h := rg_mem.mp hv
  rw [List.getElem?_map, rg_get (by omega)]
  show some (g ((v.toNat : Nat) : Int)) = _
  rw [show ((v.toNat : Nat) : Int) = v by omega]
/-- a meeting of cords that are there -/
def MtOk (c : Nat) (m : Mt) : Prop := m.1 ∈ rgI c ∧ m.2.1 ∈ rgI c ∧ m.1 ≠ m.2.1
theorem e_under (hI : Is S n c cu) (hc : isCnt cu = true) (q : Qs) (m : Mt) (hm : MtOk c m) (z1 z2 : Bool) :
    F_FormStore_under [.ref n, kD z1 (rq (mdC cu) q) c m.1, kD z2 (rq (mdC cu) q) c m.2.1, .int (sgn m.2.2)] S = .ok (kD true (rq (mdC cu) (upd q m)) c m.2.1) S := by
  have n0 := rg_mem.mp hm.1
  let ρ0 : Rho := [.val (.ref n), .val (kD z1 (rq (mdC cu) q) c m.1), .val (kD z2 (rq (mdC cu) q) c m.2.1), .val (.int (sgn m.2.2)), .emp]
  have e0 : F_FormStore_under [.ref n, kD z1 (rq (mdC cu) q) c m.1, kD z2 (rq (mdC cu) q) c m.2.1, .int (sgn m.2.2)] S = fbR (g_FormStore_under ρ0 S) := (def0_fb (by rfl)).trans rfl
  let g0 : Int → D := fun o => .int (rq (mdC cu) q m.2.1 o)
  have s1 := gIfN (g1 := gNever) (f2S_ok (ρ := ρ0) (f1S_ok (fVar_val (i := 0) rfl) (fld_custom hI)) (show fC (.tup true [.str "any", .str "back"]) ρ0 S = .ok _ S from rfl) (in_terms cu S))
  have s2 : gIf (f2S dEqS (f1S (dFld "FormStore" "own_custom") (fVar 0)) (fC (.str "through"))) gNever gNext ρ0 S = .nx ρ0 S := gIfN (f2S_ok (f1S_ok (fVar_val (i := 0) rfl) (fld_custom hI)) (kS "through") ((d_eqS S _ _).trans (by rw [is_through])))
  have s3 : gIf (f2S dEqS (f1S (dFld "FormStore" "own_custom") (fVar 0)) (fC (.str "never"))) (gRetV 2) gNext ρ0 S = .nx ρ0 S := gIfN (f2S_ok (f1S_ok (fVar_val (i := 0) rfl) (fld_custom hI)) (kS "never") ((d_eqS S _ _).trans (by rw [is_never, hc]; rfl)))
  have s4 : gSet 4 (fCall dList (fCons (f2S dIx (fVar 2) (fC (.int 0))) fNil)) ρ0 S = .nx (ρ0.set 4 (.own ((rgI c).map g0))) S := gSet_ok (d := .lst ((rgI c).map g0)) (fCall_ok (cons1 (f2S_ok (fVar_val (i := 2) rfl) (kI 0) (dIx_at (j := 0) rfl rfl rfl))) rfl)
  have near : ∀ ρ : Rho, ρ[1]? = some (.val (kD z1 (rq (mdC cu) q) c m.1)) → f2S dIx (fVar 1) (fC (.int 1)) ρ S = .ok (.int (m.1.toNat : Nat)) S := fun ρ h => by
    rw [show ((m.1.toNat : Nat) : Int) = m.1 by omega]
    exact f2S_ok (fVar_val h) (kI 1) (dIx_at (j := 1) rfl rfl rfl)
  let x1 : Int := rq (mdC cu) q m.2.1 m.1 + sgn m.2.2
  have s5 : gAugL 4 (f2S dIx (fVar 1) (fC (.int 1))) (fVar 3) dIadd (ρ0.set 4 (.own ((rgI c).map g0))) S = .nx (ρ0.set 4 (.own (((rgI c).map g0).set m.1.toNat (.int x1)))) S := gAugL_ok (i := 4) rfl (near _ rfl) (get_rg hm.1) (fVar_val rfl) rfl
  let x2 : Int := red (mdC cu) x1
  have s6 : gIf (f2S dEqS (f1S (dFld "FormStore" "own_custom") (fVar 0)) (fC (.str "twice"))) (gAugL 4 (f2S dIx (fVar 1) (fC (.int 1))) (fC (.int 2)) dImod) gNext (ρ0.set 4 (.own (((rgI c).map g0).set m.1.toNat (.int x1)))) S = .nx (ρ0.set 4 (.own (((rgI c).map g0).set m.1.toNat (.int x2)))) S := by
    have tt : f2S dEqS (f1S (dFld "FormStore" "own_custom") (fVar 0)) (fC (.str "twice")) (ρ0.set 4 (.own (((rgI c).map g0).set m.1.toNat (.int x1)))) S = .ok (.bl (mdC cu)) S := f2S_ok (f1S_ok (fVar_val (i := 0) rfl) (fld_custom hI)) (kS "twice") ((d_eqS S _ _).trans (by rw [is_twice]))
    by_cases hm' : mdC cu = true
    · rw [hm'] at tt
      have e : x2 = x1 % 2 := by show red (mdC cu) x1 = _; rw [hm']; rfl
      rw [e]
      refine (gIf_t tt).trans ((gAugL_ok (i := 4) (ds := ((rgI c).map g0).set m.1.toNat (.int x1)) (x := .int x1) (y := .int 2) (z := .int (x1 % 2)) rfl (near _ rfl) (List.getElem?_set_self (by rw [List.length_map, rg_len]; omega)) rfl rfl).trans ?_)
      rw [List.set_set, List.set_set]
    · have hm'' : mdC cu = false := by simpa using hm'
      rw [hm''] at tt
      have e : x2 = x1 := by show red (mdC cu) x1 = _; rw [hm'']; rfl
      rw [e]
      exact gIfN tt
  have fin : ((rgI c).map g0).set m.1.toNat (.int x2) = (rgI c).map fun o => .int (rq (mdC cu) (upd q m) m.2.1 o) := by
    rw [set_rg hm.1]
    refine List.map_congr_left fun o _ => ?_
    show (if o = m.1 then D.int x2 else .int (red (mdC cu) (q m.2.1 o))) = .int (red (mdC cu) (if m.2.1 = m.2.1 ∧ m.1 = o then q m.2.1 o + sgn m.2.2 else q m.2.1 o))
    by_cases e : o = m.1
    · rw [if_pos e, if_pos ⟨rfl, e.symm⟩, e]
      show D.int (red (mdC cu) (red (mdC cu) (q m.2.1 m.1) + sgn m.2.2)) = _
      rw [red_red]
    · rw [if_neg e, if_neg fun h => e h.2.symm]
  rw [e0]
  unfold g_FormStore_under
  refine (congrArg fbR (gSeq_nx s1)).trans ?_
  refine (congrArg fbR (gSeq_nx s2)).trans ?_
  refine (congrArg fbR (gSeq_nx s3)).trans ?_
  refine (congrArg fbR (gSeq_nx s4)).trans ?_
  refine (congrArg fbR (gSeq_nx s5)).trans ?_
  refine (congrArg fbR (gSeq_nx s6)).trans ?_
  refine (congrArg fbR (gRet_ok (fTup_ok (cons2 (tup_ok (cons1 (fVar_own (i := 4) rfl))) (f2S_ok (fVar_val (i := 2) rfl) (kI 1) (dIx_at (j := 1) (d := .int m.2.1) rfl rfl rfl)))))).trans ?_
  rw [fin]
  rfl
theorem e_underN (hI : Is S n c cu) (hc : isCnt cu = false) (a b s : Int) : F_FormStore_under [.ref n, .int a, .int b, .int s] S = .ok (.int b) S := by
  let ρ0 : Rho := [.val (.ref n), .val (.int a), .val (.int b), .val (.int s), .emp]
  have e0 : F_FormStore_under [.ref n, .int a, .int b, .int s] S = fbR (g_FormStore_under ρ0 S) := (def0_fb (by rfl)).trans rfl
  have s1 := gIfN (g1 := gNever) (f2S_ok (ρ := ρ0) (f1S_ok (fVar_val (i := 0) rfl) (fld_custom hI)) (show fC (.tup true [.str "any", .str "back"]) ρ0 S = .ok _ S from rfl) (in_terms cu S))
  have s2 : gIf (f2S dEqS (f1S (dFld "FormStore" "own_custom") (fVar 0)) (fC (.str "through"))) gNever gNext ρ0 S = .nx ρ0 S := gIfN (f2S_ok (f1S_ok (fVar_val (i := 0) rfl) (fld_custom hI)) (kS "through") ((d_eqS S _ _).trans (by rw [is_through])))
  have s3 : gIf (f2S dEqS (f1S (dFld "FormStore" "own_custom") (fVar 0)) (fC (.str "never"))) (gRetV 2) gNext ρ0 S = .ret (.int b) S := (gIf_t (f2S_ok (f1S_ok (fVar_val (i := 0) rfl) (fld_custom hI)) (kS "never") ((d_eqS S _ _).trans (by rw [is_never, hc]; rfl)))).trans (gRetV_val rfl rfl)
  rw [e0]
  unfold g_FormStore_under
  refine (congrArg fbR (gSeq_nx s1)).trans ?_
  refine (congrArg fbR (gSeq_nx s2)).trans ?_
  exact congrArg fbR (gSeq_ret s3)
end
end K14

set_option Elab.async false
set_option linter.all false
set_option maxRecDepth 100000
/-! C5: k14's plain law: forms behind a row -/
namespace K14
open PySem PySem.Spec L2 QL
open PyProof.Rows hiding St cutD
section
variable {S S1 S2 : Sto} {ρ : Rho} {c n t : Nat} {r : List Cr} {cu : Cu} {l : List Int} {x : Cr} {d e : D} {fi fv : Fx} {i : Nat}
theorem fStar_ok {f : Fx} {a : Ax} {xs ds : List D} (h : f ρ S = .ok d S1) (hd : (d.res S1).items = some xs) (h2 : a ρ S1 = .ok ds S2) : fStar f a ρ S = .ok (xs ++ ds) S2 := by
  unfold fStar
  rw [h]
  simp only [hd, h2]
theorem not_in_take {p : Nat} {v : Int} (nd : l.Nodup) (hv : v ∈ l.take p) (k : Nat) (hk : p ≤ k) (hl : k < l.length) : v ≠ l.getD k 0 := fun e => by
  obtain ⟨i, hi⟩ := List.mem_iff_getElem?.mp hv
  rw [List.getElem?_take] at hi
  by_cases h : i < p
  · rw [if_pos h] at hi
    have a := place_at nd hi
    rw [e, place_D nd hl] at a
    omega
  · rw [if_neg h] at hi; cases hi
theorem not_in_drop {p : Nat} {v : Int} (nd : l.Nodup) (hv : v ∈ l.drop p) (k : Nat) (hk : k < p) (hl : k < l.length) : v ≠ l.getD k 0 := fun e => by
  obtain ⟨i, hi⟩ := List.mem_iff_getElem?.mp hv
  rw [List.getElem?_drop] at hi
  have a := place_at nd hi
  rw [e, place_D nd hl] at a
  omega
theorem e_crossed (hI : Is S n c cu) (nd : l.Nodup) (ll : l.length ≤ 1000) (hl : x.2 + 1 < l.length) (K K' : Int → D) (hu : F_FormStore_under [.ref n, K (mtOf l x).1, K (mtOf l x).2.1, .int (sgn (mtOf l x).2.2)] S = .ok (K' (mtOf l x).2.1) S) (hs : ∀ v, v ≠ (mtOf l x).2.1 → K' v = K v) :
    F_FormStore_crossed [.ref n, .tup true (l.map K), crD x] S = .ok (.tup true ((swapL l x.2).map K')) S := by
  let p := x.2
  let near := l.getD x.2 0
  let far := l.getD (x.2 + 1) 0
  have nf : near ≠ far := near_far nd hl
  let ρ0 : Rho := [.val (.ref n), .val (.tup true (l.map K)), .val (crD x), .emp, .emp, .emp, .emp, .emp]
  let ρ1 : Rho := [.val (.ref n), .val (.tup true (l.map K)), .val (crD x), .val (.str (sideS x.1)), .val (.int (x.2 : Nat)), .emp, .emp, .emp]
  let ρ2 : Rho := [.val (.ref n), .val (.tup true (l.map K)), .val (crD x), .val (.str (sideS x.1)), .val (.int (x.2 : Nat)), .val (K near), .val (K far), .emp]
  have e0 : F_FormStore_crossed [.ref n, .tup true (l.map K), crD x] S = fbR (g_FormStore_crossed ρ0 S) := (def0_fb (by rfl)).trans rfl
  have s1 : gAs (fVarR 2) (tfTup 2 (tfCons (tfOf (tnName 3)) (tfCons (tfOf (tnName 4)) tfNil))) ρ0 S = .nx ρ1 S := gAs_ok (d := crD x) (fVarR_val rfl) (tfTup2 rfl rfl)
  have k1 : (l.map K)[x.2]? = some (K near) := by rw [List.getElem?_map, get_D (by omega)]; rfl
  have k2 : (l.map K)[x.2 + 1]? = some (K far) := by rw [List.getElem?_map, get_D hl]; rfl
  have s2 : gParK false false 5 6 (f2S dIx (fVar 1) (fVar 4)) (f2S dIx (fVar 1) (f2 dAdd (fVar 4) (fC (.int 1)))) ρ1 S = .nx ρ2 S := gParK_ok (f2S_ok (fVar_val rfl) (fVar_val rfl) (dIx_at rfl rfl k1)) (f2S_ok (fVar_val rfl) (f2_ok (fVar_val rfl) (kI 1) addI) (dIx_at rfl rfl k2))
  have mx : ∀ t, (fsF c cu t).lookup ("under" : Str) = none := fun t => rfl
  have s3 : gIf (f2S dEqS (fVar 3) (fC (.str "left"))) (gSet 7 (fTup true (fCons (fMeth "FormStore" "under" F_FormStore_under (fVar 0) (fCons (fVar 5) (fCons (fVar 6) (fCons (fC (.int 1)) fNil)))) (fCons (fVarR 5) fNil)))) (gSet 7 (fTup true (fCons (fVarR 6) (fCons (fMeth "FormStore" "under" F_FormStore_under (fVar 0) (fCons (fVar 6) (fCons (fVar 5) (fCons (f1 dNeg (fC (.int 1))) fNil)))) fNil)))) ρ2 S = .nx (ρ2.set 7 (.val (.tup true [K' far, K' near]))) S := by
    have tt : f2S dEqS (fVar 3) (fC (.str "left")) ρ2 S = .ok (.bl x.1) S := is_left rfl
    by_cases hb : x.1 = true
    · rw [hb] at tt
      have em : mtOf l x = (near, far, true) := by unfold mtOf; rw [if_pos hb]
      rw [em] at hu hs
      refine (gIf_t tt).trans (gSet_ok (d := .tup true [K' far, K' near]) ?_)
      rw [hs near nf]
      exact fTup_ok (cons2 ((meth_ok hI (fVar_val rfl) (cons3 (fVar_val rfl) (fVar_val rfl) (kI 1)) mx).trans hu) (fVarR_val rfl))
    · have hb' : x.1 = false := by simpa using hb
      rw [hb'] at tt
      have em : mtOf l x = (far, near, false) := by unfold mtOf; rw [if_neg hb]
      rw [em] at hu hs
      refine (gIf_f tt).trans (gSet_ok (d := .tup true [K' far, K' near]) ?_)
      rw [hs far (fun q => nf q.symm)]
      exact fTup_ok (cons2 (fVarR_val rfl) ((meth_ok hI (fVar_val rfl) (cons3 (fVar_val rfl) (fVar_val rfl) neg1) mx).trans hu))
  have le : (l.map K).length = l.length := List.length_map _
  have p2 : f2 dAdd (fVar 4) (fC (.int 2)) (ρ2.set 7 (.val (.tup true [K' far, K' near]))) S = .ok (.int ((x.2 + 2 : Nat) : Int)) S := f2_ok (fVar_val rfl) (kI 2) addI
  have s4 := fStar_ok (slT_to (S := S) (ρ := ρ2.set 7 (.val (.tup true [K' far, K' near]))) (z := true) (xs := l.map K) (f := fVar 1) (fh := fVar 4) (fVar_val rfl) (fVar_val rfl) (by omega)) rfl (fStar_ok (fVar_val (i := 7) rfl) rfl (fStar_ok (slT_from (S := S) (z := true) (xs := l.map K) (f := fVar 1) (fl := f2 dAdd (fVar 4) (fC (.int 2))) (fVar_val rfl) p2 (by omega)) rfl (show fNil _ S = .ok [] S from rfl)))
  have us : (mtOf l x).2.1 = near ∨ (mtOf l x).2.1 = far := by
    unfold mtOf
    by_cases hb : x.1 = true
    · rw [if_pos hb]; exact .inr rfl
    · rw [if_neg hb]; exact .inl rfl
  have a1 : (l.map K).take x.2 = (l.map K').take x.2 := by
    rw [← List.map_take, ← List.map_take]
    refine List.map_congr_left fun v hv => (hs v ?_).symm
    rcases us with u | u <;> rw [u]
    · exact not_in_take nd hv _ (Nat.le_refl _) (by omega)
    · exact not_in_take nd hv _ (Nat.le_succ _) hl
  have a2 : (l.map K).drop (x.2 + 2) = (l.map K').drop (x.2 + 2) := by
    rw [← List.map_drop, ← List.map_drop]
    refine List.map_congr_left fun v hv => (hs v ?_).symm
    rcases us with u | u <;> rw [u]
    · exact not_in_drop nd hv _ (by omega) (by omega)
    · exact not_in_drop nd hv _ (by omega) hl
  have k1' : (l.map K')[x.2]? = some (K' near) := by rw [List.getElem?_map, get_D (by omega)]; rfl
  have k2' : (l.map K')[x.2 + 1]? = some (K' far) := by rw [List.getElem?_map, get_D hl]; rfl
  have fin : (l.map K).take x.2 ++ ([K' far, K' near] ++ ((l.map K).drop (x.2 + 2) ++ [])) = (swapL l x.2).map K' := by
    rw [a1, a2, List.append_nil, ← List.append_assoc, cut_swap _ _ _ _ k1' k2', ← swapL_map, swapL_eq k1' k2']
  rw [fin] at s4
  rw [e0]
  unfold g_FormStore_crossed
  refine (congrArg fbR (gSeq_nx s1)).trans ?_
  refine (congrArg fbR (gSeq_nx s2)).trans ?_
  refine (congrArg fbR (gSeq_nx s3)).trans ?_
  exact congrArg fbR (gRet_ok (fTup_ok s4 (by rw [List.length_map, swapL_length]; omega)))
theorem rg_at {fe : Fx} (h : fe ρ S = .ok (.int c) S) (hc : c ≤ 5) : fRange1 (fCons fe fNil) ρ S = .ok ((rgI c).map D.int) S := by
  unfold fRange1
  rw [cons1 h]
  show aOf (rg1 [D.int (c : Int)]) S = _
  rw [rg_ints (by omega) (by omega)]
  rfl
/-- the cells of a key -/
abbrev Stt := (Int → Bool) × Qs
def cellC (cu : Cu) (c : Nat) (st : Stt) (v : Int) : D := if isCnt cu = true then kD (st.1 v) (rq (mdC cu) st.2) c v else .int v
def stepC (st : Stt) (m : Mt) : Stt := (fun v => if v = m.2.1 then true else st.1 v, upd st.2 m)
def st0 : Stt := (fun _ => false, q0)
theorem step_snd : ∀ (ms : List Mt) (st : Stt), (ms.foldl stepC st).2 = cntF st.2 ms
  | [], st => rfl
  | m :: ms, st => step_snd ms (stepC st m)
theorem cell_step (hI : Is S n c cu) (st : Stt) {m : Mt} (hm : MtOk c m) : F_FormStore_under [.ref n, cellC cu c st m.1, cellC cu c st m.2.1, .int (sgn m.2.2)] S = .ok (cellC cu c (stepC st m) m.2.1) S ∧ ∀ v, v ≠ m.2.1 → cellC cu c (stepC st m) v = cellC cu c st v := by
  unfold cellC
  by_cases h : isCnt cu = true
  · simp only [if_pos h]
    refine ⟨?_, fun v hv => ?_⟩
    · have e := e_under hI h st.2 m hm (st.1 m.1) (st.1 m.2.1)
      rw [e]
      show _ = Res.ok (kD (if m.2.1 = m.2.1 then true else st.1 m.2.1) (rq (mdC cu) (upd st.2 m)) c m.2.1) S
      rw [if_pos rfl]
    · show kD (if v = m.2.1 then true else st.1 v) (rq (mdC cu) (upd st.2 m)) c v = _
      rw [if_neg hv]
      unfold kD
      congr 3
      refine List.map_congr_left fun o _ => ?_
      show D.int (red (mdC cu) (if m.2.1 = v ∧ m.1 = o then st.2 v o + sgn m.2.2 else st.2 v o)) = _
      rw [if_neg fun q => hv q.1.symm]
      rfl
  · simp only [if_neg h]
    exact ⟨e_underN hI (by simpa using h) _ _ _, fun v _ => trivial⟩
theorem mt_ok (p : l.Perm (rgI c)) (hl : x.2 + 1 < l.length) : MtOk c (mtOf l x) := by
  have nd : l.Nodup := p.nodup_iff.mpr (nodup_rg c)
  have m1 : l.getD x.2 0 ∈ rgI c := p.mem_iff.mp (getD_mem (by omega))
  have m2 : l.getD (x.2 + 1) 0 ∈ rgI c := p.mem_iff.mp (getD_mem hl)
  refine ⟨?_, ?_, mt_ne nd hl⟩
  · unfold mtOf; cases x.1
    · exact m2
    · exact m1
  · unfold mtOf; cases x.1
    · exact m1
    · exact m2
theorem led_loop (hI : Is S n c cu) (hc : c ≤ 5) (rw : D) : ∀ (r : List Cr) (l : List Int) (st : Stt) (s : Sl), l.Perm (rgI c) → (∀ x ∈ r, x.2 + 1 < l.length) → ∃ s',
    forG (tfOf (tnName 3)) (gSet 1 (fMeth "FormStore" "crossed" F_FormStore_crossed (fVar 0) (fCons (fVar 1) (fCons (fVar 3) fNil)))) (r.map crD) [.val (.ref n), .val (.tup true (l.map (cellC cu c st))), .val rw, s] S = .nx [.val (.ref n), .val (.tup true ((lastF l r).map (cellC cu c ((metF l r).foldl stepC st)))), .val rw, s'] S
  | [], l, st, s, _, _ => ⟨s, rfl⟩
  | x :: r, l, st, s, p, h => by
    have hx := h x List.mem_cons_self
    have nd : l.Nodup := p.nodup_iff.mpr (nodup_rg c)
    have ll : l.length ≤ 1000 := by rw [p.length_eq, rg_len]; omega
    have cs := cell_step hI st (mt_ok p hx)
    have cr := e_crossed hI nd ll hx (cellC cu c st) (cellC cu c (stepC st (mtOf l x))) cs.1 cs.2
    obtain ⟨s', e⟩ := led_loop hI hc rw r (swapL l x.2) (stepC st (mtOf l x)) (.val (crD x)) ((swap_perm l x.2).trans p) fun y hy => by rw [swapL_length]; exact h y (List.mem_cons_of_mem _ hy)
    refine ⟨s', ?_⟩
    rw [List.map_cons, forG_cons (ρ1 := [.val (.ref n), .val (.tup true (l.map (cellC cu c st))), .val rw, .val (crD x)]) rfl (gSet_ok ((meth_ok hI (fVar_val rfl) (cons2 (fVar_val rfl) (fVar_val rfl)) (fun t => rfl)).trans cr))]
    exact e
/-- what the store answers -/
def formS (cu : Cu) (c : Nat) (r : List Cr) : Stt := (metF (rgI c) r).foldl stepC st0
def formD (cu : Cu) (c : Nat) (r : List Cr) : D := .tup true ((lastF (rgI c) r).map (cellC cu c (formS cu c r)))
theorem e_led (z : Bool) (hI : Is S n c cu) (h : RowOk c r) : F_FormStore_led [.ref n, .tup true ((rgI c).map (cellC cu c st0)), rowD z r] S = .ok (formD cu c r) S := by
  obtain ⟨s', e⟩ := led_loop hI h.2.1 (rowD z r) r (rgI c) st0 .emp (.refl _) h.fits
  have e0 : F_FormStore_led [.ref n, .tup true ((rgI c).map (cellC cu c st0)), rowD z r] S = fbR (g_FormStore_led [.val (.ref n), .val (.tup true ((rgI c).map (cellC cu c st0))), .val (rowD z r), .emp] S) := (def0_fb (by rfl)).trans rfl
  rw [e0]
  unfold g_FormStore_led
  refine (congrArg fbR (gSeq_nx ((gFor_ok (ds := r.map crD) rfl).trans e))).trans ?_
  exact congrArg fbR (gRetV_val rfl rfl)
theorem zeros (h1 : 2 ≤ c) (h2 : c ≤ 5) : dMul (.tup true [.int 0]) (.int c) = some (.tup false ((rgI c).map fun _ => .int 0)) := by
  rcases (show c = 2 ∨ c = 3 ∨ c = 4 ∨ c = 5 by omega) with rfl | rfl | rfl | rfl <;> rfl
theorem e_beginning (hI : Is S n c cu) (h1 : 2 ≤ c) (h2 : c ≤ 5) : F_FormStore_beginning [.ref n] S = .ok (.tup true ((rgI c).map (cellC cu c st0))) S := by
  let ρ0 : Rho := [.val (.ref n), .emp]
  have e0 : F_FormStore_beginning [.ref n] S = fbR (g_FormStore_beginning ρ0 S) := (def0_fb (by rfl)).trans rfl
  have s1 : gIf (f2S dEqS (f1S (dFld "FormStore" "own_custom") (fVar 0)) (fC (.str "through"))) gNever gNext ρ0 S = .nx ρ0 S := gIfN (f2S_ok (f1S_ok (fVar_val (i := 0) rfl) (fld_custom hI)) (kS "through") ((d_eqS S _ _).trans (by rw [is_through])))
  have tt : f2S dIn (f1S (dFld "FormStore" "own_custom") (fVar 0)) (fC (.tup true [.str "began", .str "twice"])) ρ0 S = .ok (.bl (isCnt cu)) S := f2S_ok (f1S_ok (fVar_val (i := 0) rfl) (fld_custom hI)) rfl (in_counts cu S)
  rw [e0]
  unfold g_FormStore_beginning
  refine (congrArg fbR (gSeq_nx s1)).trans ?_
  by_cases h : isCnt cu = true
  · rw [h] at tt
    have lc := tup_ok (cons1 (fLc_map (vs := [1]) (ρ := ρ0) (fi := fRange1 (fCons (f1S (dFld "FormStore" "own_cords") (fVar 0)) fNil)) (t := tnName 1) (fe := fTup true (fCons (f2 dMul (fTup true (fCons (fC (.int 0)) fNil)) (f1S (dFld "FormStore" "own_cords") (fVar 0))) (fCons (fVarR 1) fNil))) (S := S) (S1 := S) D.int (cellC cu c st0) (rgI c) (rg_at (f1S_ok (fVar_val (i := 0) rfl) (fld_cords hI)) h2) rfl (fun v hv => by
      refine ⟨[.val (.ref n), .val (.int v)], rfl, ?_⟩
      have e : cellC cu c st0 v = .tup true [.tup false ((rgI c).map fun _ => .int 0), .int v] := by
        unfold cellC
        rw [if_pos h]
        show kD false (rq (mdC cu) q0) c v = _
        unfold kD rq q0
        rw [red_0]
      rw [e]
      exact fTup_ok (cons2 (f2_ok (fTup_ok (cons1 (kI 0))) (f1S_ok (fVar_val (i := 0) rfl) (fld_cords hI)) (zeros h1 h2)) (fVarR_val rfl))) (by rw [rg_len]; omega)))
    exact congrArg fbR (gSeq_ret ((gIf_t tt).trans (gRet_ok lc)))
  · have h' : isCnt cu = false := by simpa using h
    rw [h'] at tt
    refine (congrArg fbR (gSeq_nx (gIfN tt))).trans ?_
    refine (congrArg fbR (gRet_ok (f1_ok (d := .int c) (f1S_ok (fVar_val (i := 0) rfl) (fld_cords hI)) (x := .tup true ((rgI c).map (cellC cu c st0))) ?_))).trans rfl
    have hb : rgB 0 (c : Int) = true := by
      unfold rgB
      exact decide_eq_true ⟨by omega, by omega, by omega, by omega, by omega⟩
    show (if rgB 0 (c : Int) then some (D.tup true (rgD 0 (c : Int).toNat)) else none) = _
    rw [if_pos hb]
    unfold rgD rgI
    rw [List.map_map, Int.toNat_natCast]
    congr 2
    refine List.map_congr_left fun i _ => ?_
    show D.int (0 + (i : Int)) = cellC cu c st0 (i : Int)
    unfold cellC
    rw [if_neg h, Int.zero_add]
theorem e_behind (z : Bool) (hI : Is S n c cu) (h : RowOk c r) : F_FormStore_behind [.ref n, rowD z r] S = .ok (formD cu c r) S := by
  have e0 : F_FormStore_behind [.ref n, rowD z r] S = fbR (g_FormStore_behind [.val (.ref n), .val (rowD z r)] S) := (def0_fb (by rfl)).trans rfl
  rw [e0]
  unfold g_FormStore_behind
  exact congrArg fbR (gRet_ok ((meth_ok hI (fVar_val rfl) (cons2 ((meth_ok hI (fVar_val rfl) (show fNil _ S = .ok [] S from rfl) (fun t => rfl)).trans (e_beginning hI h.1 h.2.1)) (fVar_val rfl)) (fun t => rfl)).trans (e_led z hI h)))
theorem e_told (hI : Is S n c cu) (ds : List D) : F_FormStore_told [.ref n, .tup true ds] S = .ok (.tup true ds) S := by
  have e0 : F_FormStore_told [.ref n, .tup true ds] S = fbR (g_FormStore_told [.val (.ref n), .val (.tup true ds), .emp] S) := (def0_fb (by rfl)).trans rfl
  rw [e0]
  unfold g_FormStore_told
  exact congrArg fbR (gSeq_ret ((gIf_t (f2S_ok (f1S_ok (fVar_val (i := 0) rfl) (fld_custom hI)) rfl (nin_terms cu S))).trans (gRetV_val rfl rfl)))
end
end K14

set_option Elab.async false
set_option linter.all false
set_option maxRecDepth 100000
/-! C6: k14's plain law: stores made; forms_of, are_alike -/
namespace K14
open PySem PySem.Spec L2 QL
open PyProof.Rows hiding St cutD
section
variable {S S1 S2 : Sto} {ρ : Rho} {c n t : Nat} {r r2 : List Cr} {cu : Cu} {l : List Int} {x : Cr} {d e : D} {fi fv : Fx} {i : Nat}
theorem get_mid (S : Sto) (o : MO) (X : Sto) : ((S ++ [o]) ++ X)[S.length]? = some o := by
  rw [List.append_assoc, List.getElem?_append_right (Nat.le_refl _), Nat.sub_self]; rfl
theorem set_mid (S : Sto) (o o' : MO) (X : Sto) : ((S ++ [o]) ++ X).set S.length o' = (S ++ [o']) ++ X := by
  rw [List.append_assoc, List.set_append_right _ _ (Nat.le_refl _), Nat.sub_self, List.append_assoc]; rfl
theorem gFldS_ok {cls f : Str} {fo fv : Fx} {fs : List (Str × D)} {m : Nat} (hv : fv ρ S = .ok d S1) (ho : fo ρ S1 = .ok (.ref m) S2) (hm : S2[m]? = some (.ins cls fs)) (l : fs.length < 1000) : gFldS cls f fo fv ρ S = .nx ρ (S2.set m (.ins cls (putFD f d fs))) := by
  unfold gFldS
  rw [hv]
  simp only [thenG]
  rw [ho]
  simp only [thenG, hm]
  rw [if_pos ⟨trivial, l⟩]
theorem fMake_ok {cls : Str} {F : List D → Sto → Res} {a : Ax} {ds : List D} (ha : a ρ S = .ok ds S1) (hF : F (.ref S1.length :: ds) (S1 ++ [.ins cls []]) = .ok .non S2) : fMake cls F a ρ S = .ok (.ref S1.length) S2 := by
  unfold fMake
  rw [ha]
  simp only [ARes.bind, hF]
theorem putFD_len (f : Str) (d : D) : ∀ fs : List (Str × D), (putFD f d fs).length ≤ fs.length + 1
  | [] => by unfold putFD; simp
  | (g, x) :: r => by
    unfold putFD
    by_cases h : g = f
    · rw [if_pos h]; simp
    · rw [if_neg h]
      have := putFD_len f d r
      rw [List.length_cons, List.length_cons]
      omega
theorem gFldS_any {cls f : Str} {fo fv : Fx} {fs : List (Str × D)} {m : Nat} (hv : fv ρ S = .ok d S1) (ho : fo ρ S1 = .ok (.ref m) S2) (hm : S2[m]? = some (.ins cls fs)) (l : fs.length < 1000) : ∃ fs', fs'.length ≤ fs.length + 1 ∧ gFldS cls f fo fv ρ S = .nx ρ (S2.set m (.ins cls fs')) := ⟨_, putFD_len f d fs, gFldS_ok hv ho hm l⟩
theorem e_table (hc : c ≤ 5) : ∃ X, F_TermTable_init [.ref S.length, .int c] (S ++ [.ins "TermTable" []]) = .ok .non (S ++ X) := by
  let ρ0 : Rho := [.val (.ref S.length), .val (.int c), .emp]
  have e0 : ∀ S', F_TermTable_init [.ref S.length, .int c] S' = fbR (g_TermTable_init ρ0 S') := fun S' => (def0_fb (by rfl)).trans rfl
  have v0 : ∀ S' : Sto, fVar 0 ρ0 S' = .ok (.ref S.length) S' := fun S' => fVar_val rfl
  have l1 := fLc_map (vs := [2]) (ρ := ρ0) (fi := fRange1 (fCons (fVar 1) fNil)) (t := tnName 2) (fe := fTup true (fCons (fC (.str "cord")) (fCons (fVarR 2) fNil))) (S := S ++ [.ins "TermTable" []]) (S1 := S ++ [.ins "TermTable" []]) D.int (fun v => .tup true [.str "cord", .int v]) (rgI c) (rg_at (fVar_val rfl) hc) rfl (fun v hv => ⟨[.val (.ref S.length), .val (.int c), .val (.int v)], rfl, fTup_ok (cons2 (kS "cord") (fVarR_val rfl))⟩) (by rw [rg_len]; omega)
  obtain ⟨f1, n1, s1⟩ := gFldS_any (cls := "TermTable") (f := "own_nodes") (fo := fVar 0) (m := S.length) l1 (v0 _) (get_end S _) (by decide)
  rw [set_end] at s1
  have l2 := fLc_map (vs := [2]) (ρ := ρ0) (fi := fRange1 (fCons (fVar 1) fNil)) (t := tnName 2) (fe := fC (.int 1)) (S := S ++ [.ins "TermTable" f1]) (S1 := S ++ [.ins "TermTable" f1]) D.int (fun v => .int 1) (rgI c) (rg_at (fVar_val rfl) hc) rfl (fun v hv => ⟨[.val (.ref S.length), .val (.int c), .val (.int v)], rfl, rfl⟩) (by rw [rg_len]; omega)
  have n1' : f1.length ≤ 1 := n1
  obtain ⟨f2, n2, s2⟩ := gFldS_any (cls := "TermTable") (f := "own_sizes") (fo := fVar 0) (m := S.length) l2 (v0 _) (get_end S _) (by omega)
  rw [set_end] at s2
  obtain ⟨f3, n3, s3⟩ := gFldS_any (cls := "TermTable") (f := "own_spots") (fo := fVar 0) (fv := fDNewT) (ρ := ρ0) (S := S ++ [.ins "TermTable" f2]) (m := S.length) rfl (v0 _) (get_mid S _ _) (by omega)
  rw [set_mid] at s3
  obtain ⟨f4, n4, s4⟩ := gFldS_any (cls := "TermTable") (f := "own_told") (fo := fVar 0) (fv := fDNewK) (ρ := ρ0) (S := (S ++ [.ins "TermTable" f3]) ++ [.dctT []]) (m := S.length) (fs := f3) rfl (v0 _) (by have q := get_mid S (.ins "TermTable" f3) ([.dctT []] ++ [.dct []]); rw [← List.append_assoc] at q; exact q) (by omega)
  have q4 := set_mid S (.ins "TermTable" f3) (.ins "TermTable" f4) ([.dctT []] ++ [.dct []])
  rw [← List.append_assoc] at q4
  rw [q4] at s4
  refine ⟨[.ins "TermTable" f4] ++ ([.dctT []] ++ [.dct []]), ?_⟩
  rw [e0]
  unfold g_TermTable_init
  refine (congrArg fbR (gSeq_nx s1)).trans ?_
  refine (congrArg fbR (gSeq_nx s2)).trans ?_
  refine (congrArg fbR (gSeq_nx s3)).trans ?_
  refine (congrArg fbR s4).trans ?_
  rw [List.append_assoc S]
  rfl
theorem put_1 (x d : D) : putFD "own_custom" d [("own_cords", x)] = ([("own_cords", x), ("own_custom", d)] : List (Str × D)) := by
  unfold putFD
  rw [if_neg (by decide +kernel)]
  rfl
theorem put_2 (x y d : D) : putFD "own_table" d [("own_cords", x), ("own_custom", y)] = ([("own_cords", x), ("own_custom", y), ("own_table", d)] : List (Str × D)) := by
  unfold putFD
  rw [if_neg (by decide +kernel)]
  unfold putFD
  rw [if_neg (by decide +kernel)]
  rfl
/-- a store of forms is made -/
theorem e_make {a : Ax} (hc : c ≤ 5) (ha : a ρ S = .ok [.int c, .str (nmC cu)] S) : ∃ X, fMake "FormStore" F_FormStore_init a ρ S = .ok (.ref S.length) (S ++ X) ∧ Is (S ++ X) S.length c cu := by
  let ρ0 : Rho := [.val (.ref S.length), .val (.int c), .val (.str (nmC cu))]
  have e0 : ∀ S', F_FormStore_init [.ref S.length, .int c, .str (nmC cu)] S' = fbR (g_FormStore_init ρ0 S') := fun S' => (def0_fb (by rfl)).trans rfl
  have v0 : ∀ S' : Sto, fVar 0 ρ0 S' = .ok (.ref S.length) S' := fun S' => fVar_val rfl
  have s1 := gFldS_ok (cls := "FormStore") (f := "own_cords") (fo := fVar 0) (fv := fVarR 1) (ρ := ρ0) (S := S ++ [.ins "FormStore" []]) (m := S.length) (fVarR_val rfl) (v0 _) (get_end S _) (by decide)
  rw [set_end] at s1
  have s2 := gFldS_ok (cls := "FormStore") (f := "own_custom") (fo := fVar 0) (fv := fVarR 2) (ρ := ρ0) (S := S ++ [.ins "FormStore" [("own_cords", .int c)]]) (m := S.length) (fVarR_val rfl) (v0 _) (get_end S _) (by simp)
  rw [set_end, put_1] at s2
  obtain ⟨X, ht⟩ := e_table (S := S ++ [.ins "FormStore" [("own_cords", .int c), ("own_custom", .str (nmC cu))]]) hc
  have s3 := gFldS_ok (cls := "FormStore") (f := "own_table") (fo := fVar 0) (fv := fMake "TermTable" F_TermTable_init (fCons (fVar 1) fNil)) (ρ := ρ0) (m := S.length) (fMake_ok (cons1 (fVar_val (i := 1) rfl)) ht) (v0 _) (get_mid S _ X) (by simp)
  rw [set_mid, put_2] at s3
  let t : Nat := (S ++ [MO.ins "FormStore" [("own_cords", .int c), ("own_custom", .str (nmC cu))]]).length
  refine ⟨[MO.ins "FormStore" (fsF c cu t)] ++ X, ?_, ⟨t, ?_⟩⟩
  · refine fMake_ok ha ?_
    rw [e0]
    unfold g_FormStore_init
    refine (congrArg fbR (gSeq_nx s1)).trans ?_
    refine (congrArg fbR (gSeq_nx s2)).trans ?_
    refine (congrArg fbR s3).trans ?_
    rw [List.append_assoc S]
    rfl
  · rw [← List.append_assoc]
    exact get_mid S _ X
theorem tab_app {m : Str} (h : hasTab m S = true) (X : Sto) : hasTab m (S ++ X) = true := by
  unfold hasTab at h ⊢
  rw [List.any_append, h]
  rfl
theorem e_forms_of (z : Bool) (h : RowOk c r) (ht : hasTab "need_row" S = true) (cu : Cu) : ∃ X, F_forms_of [.int c, rowD z r, .str (nmC cu)] S = .ok (formD cu c r) (S ++ X) := by
  let ρ0 : Rho := [.val (.int c), .val (rowD z r), .val (.str (nmC cu)), .emp]
  have e0 : F_forms_of [.int c, rowD z r, .str (nmC cu)] S = fbR (g_forms_of ρ0 S) := (def0_fb (by rfl)).trans rfl
  have s1 : gExpr (fDef F_need_row (fCons (fDef F_need_cords (fCons (fVar 0) fNil)) (fCons (fVar 1) fNil))) ρ0 S = .nx ρ0 S := gExpr_ok ((fDef_ok (cons2 ((fDef_ok (cons1 (fVar_val (i := 0) rfl))).trans (e_cords (by have := h.1; omega) (by have := h.2.1; omega) S)) (fVar_val (i := 1) rfl))).trans (e_row z h ht))
  obtain ⟨X, mk, hI⟩ := e_make (S := S) (ρ := ρ0) (cu := cu) (a := fCons (fVar 0) (fCons (fDef F_need_custom (fCons (fVar 2) fNil)) fNil)) h.2.1 (cons2 (fVar_val rfl) ((fDef_ok (cons1 (fVar_val rfl))).trans (e_need_custom cu S)))
  have s2 := gSetR_ok (i := 3) mk
  refine ⟨X, ?_⟩
  rw [e0]
  unfold g_forms_of
  refine (congrArg fbR (gSeq_nx s1)).trans ?_
  refine (congrArg fbR (gSeq_nx s2)).trans ?_
  exact congrArg fbR (gRet_ok ((meth_ok hI (fVar_val rfl) (cons1 ((meth_ok hI (fVar_val rfl) (cons1 (fVar_val rfl)) (fun t => rfl)).trans (e_behind z hI h))) (fun t => rfl)).trans (e_told hI _)))
theorem e_are_alike (z z2 : Bool) (h : RowOk c r) (h2 : RowOk c r2) (ht : hasTab "need_row" S = true) (cu : Cu) {b : Bool} (hb : dEqB (formD cu c r2) (formD cu c r) = some b) : ∃ X, F_are_alike [.int c, rowD z r, rowD z2 r2, .str (nmC cu)] S = .ok (.bl b) (S ++ X) := by
  let ρ0 : Rho := [.val (.int c), .val (rowD z r), .val (rowD z2 r2), .val (.str (nmC cu))]
  let ρ1 : Rho := [.val (.int c), .val (rowD z r), .val (rowD z2 r2), .val (.str (nmC cu)), .emp, .emp]
  have e0 : F_are_alike [.int c, rowD z r, rowD z2 r2, .str (nmC cu)] S = fbR (g_are_alike ρ0 S) := (def0_fb (by rfl)).trans rfl
  have e1 : F_alike_in [.int c, rowD z r, rowD z2 r2, .str (nmC cu)] S = fbR (g_alike_in ρ1 S) := (def0_fb (by rfl)).trans rfl
  have s1 : gExpr (fDef F_need_row (fCons (fDef F_need_cords (fCons (fVar 0) fNil)) (fCons (fVar 1) fNil))) ρ0 S = .nx ρ0 S := gExpr_ok ((fDef_ok (cons2 ((fDef_ok (cons1 (fVar_val (i := 0) rfl))).trans (e_cords (by have := h.1; omega) (by have := h.2.1; omega) S)) (fVar_val (i := 1) rfl))).trans (e_row z h ht))
  have s2 : gExpr (fDef F_need_row (fCons (fVar 0) (fCons (fVar 2) fNil))) ρ0 S = .nx ρ0 S := gExpr_ok ((fDef_ok (cons2 (fVar_val (i := 0) rfl) (fVar_val (i := 2) rfl))).trans (e_row z2 h2 ht))
  obtain ⟨X, mk, hI⟩ := e_make (S := S) (ρ := ρ1) (cu := cu) (a := fCons (fVar 0) (fCons (fVar 3) fNil)) h.2.1 (cons2 (fVar_val rfl) (fVar_val rfl))
  have t1 := gSetR_ok (i := 4) mk
  have t2 := gSet_ok (i := 5) (ρ := ρ1.set 4 (.val (.ref S.length))) ((meth_ok (m := "behind") (F := F_FormStore_behind) hI (fVar_val (i := 4) rfl) (cons1 (fVar_val (i := 1) rfl)) (fun t => rfl)).trans (e_behind z hI h))
  have dq : dEqS (S ++ X) (formD cu c r2) (formD cu c r) = some (.bl b) := by
    show (dEqB (formD cu c r2) (formD cu c r)).map D.bl = _
    rw [hb]; rfl
  have t3 := gRet_ok (f2S_ok (ρ := (ρ1.set 4 (.val (.ref S.length))).set 5 (putSl (formD cu c r))) ((meth_ok (m := "behind") (F := F_FormStore_behind) hI (fVar_val (i := 4) rfl) (cons1 (fVar_val (i := 2) rfl)) (fun t => rfl)).trans (e_behind z2 hI h2)) (fVar_val (i := 5) rfl) dq)
  have ein : F_alike_in [.int c, rowD z r, rowD z2 r2, .str (nmC cu)] S = .ok (.bl b) (S ++ X) := by
    rw [e1]
    unfold g_alike_in
    refine (congrArg fbR (gSeq_nx t1)).trans ?_
    refine (congrArg fbR (gSeq_nx t2)).trans ?_
    exact congrArg fbR t3
  refine ⟨X, ?_⟩
  rw [e0]
  unfold g_are_alike
  refine (congrArg fbR (gSeq_nx s1)).trans ?_
  refine (congrArg fbR (gSeq_nx s2)).trans ?_
  exact congrArg fbR (gRet_ok ((fDef_ok (cons4 (fVar_val rfl) (fVar_val rfl) (fVar_val rfl) ((fDef_ok (cons1 (fVar_val (i := 3) rfl))).trans (e_need_custom cu S)))).trans ein))
end
end K14

set_option Elab.async false
set_option linter.all false
set_option maxRecDepth 100000
/-! C7: k14's plain law: law's own counts and forms -/
namespace K14
open PySem PySem.Spec L2 QL
open PyProof.Rows hiding St cutD
theorem lc_st {α : Type} {vs : List Nat} {t : Tn} {fe : Fx} {ρ : Rho} (enc f : α → D) (St : Nat → Sto) : ∀ (xs : List α) (acc : List D) (k : Nat), (∀ j x, xs[j]? = some x → ∃ ρ1, t (enc x) (wipeR ρ vs) = some ρ1 ∧ fe ρ1 (St (k + j)) = .ok (f x) (St (k + j + 1))) → acc.length + xs.length ≤ 1000000 → lcG vs t fYes fe (xs.map enc) acc ρ (St k) = .ok (.lst (acc ++ xs.map f)) (St (k + xs.length))
  | [], acc, k, _, _ => by simp [lcG]
  | x :: xs, acc, k, h, n => by
    rw [List.length_cons] at n
    obtain ⟨ρ1, h1, h2⟩ := h 0 x rfl
    have ih := lc_st enc f St xs (acc ++ [f x]) (k + 1) (fun j y hy => by
      have := h (j + 1) y hy
      rw [show k + 1 + j = k + (j + 1) by omega]
      exact this) (by rw [List.length_append, List.length_singleton]; omega)
    rw [List.map_cons, lcG, h1]
    simp only [fYes]
    rw [Nat.add_zero] at h2
    rw [h2]
    simp only [if_pos (show acc.length < 1000000 by omega)]
    rw [ih, List.append_assoc, List.length_cons, show k + 1 + xs.length = k + (xs.length + 1) by omega]
    rfl
theorem fLc_st {α : Type} {vs : List Nat} {fi : Ax} {t : Tn} {fe : Fx} {ρ : Rho} {S : Sto} (enc f : α → D) (St : Nat → Sto) (xs : List α) (hi : fi ρ S = .ok (xs.map enc) (St 0)) (h : ∀ j x, xs[j]? = some x → ∃ ρ1, t (enc x) (wipeR ρ vs) = some ρ1 ∧ fe ρ1 (St j) = .ok (f x) (St (j + 1))) (n : xs.length ≤ 1000000) : fLc vs fi t fYes fe ρ S = .ok (.lst (xs.map f)) (St xs.length) := by
  unfold fLc
  rw [hi]
  have := lc_st (vs := vs) (t := t) (fe := fe) (ρ := ρ) enc f St xs [] 0 (fun j x hx => by rw [Nat.zero_add]; exact h j x hx) (by simpa using n)
  rw [Nat.zero_add] at this
  exact this
section
variable {S S1 S2 : Sto} {ρ : Rho} {c n t : Nat} {r r2 : List Cr} {cu : Cu} {l : List Int} {x : Cr} {d e : D} {fi fv : Fx} {i : Nat}
def rowL (q : Qs) (c : Nat) (u : Int) : List D := (rgI c).map fun o => .int (q u o)
def rowsM (q : Qs) (c : Nat) : Sto := (rgI c).map fun u => .lst (rowL q c u)
def refD (b : Nat) (v : Int) : D := .ref (b + v.toNat)
def refsD (b c : Nat) : List D := (rgI c).map (refD b)
theorem set_rgG {β : Type} {g : Int → β} {d : β} {v : Int} (hv : v ∈ rgI c) : ((rgI c).map g).set v.toNat d = (rgI c).map fun o => if o = v then d else g o := by
  have h := rg_mem.mp hv
  refine List.ext_getElem? fun k => ?_
  by_cases hk : k < c
  · rw [List.getElem?_map, rg_get hk]
    by_cases e : k = v.toNat
    · rw [e, List.getElem?_set_self (by rw [List.length_map, rg_len]; omega)]
      show some d = some (if ((v.toNat : Nat) : Int) = v then d else g _)
      rw [if_pos (by omega)]
    · rw [List.getElem?_set_ne (fun q => e q.symm), List.getElem?_map, rg_get hk]
      show some (g k) = some (if ((k : Nat) : Int) = v then d else g k)
      rw [if_neg (by omega)]
  · rw [List.getElem?_eq_none (by rw [List.length_set, List.length_map, rg_len]; omega), List.getElem?_eq_none (by rw [List.length_map, rg_len]; omega)]
theorem get_rgG {β : Type} {g : Int → β} {v : Int} (hv : v ∈ rgI c) : ((rgI c).map g)[v.toNat]? = some (g v) := by
  have h := rg_mem.mp hv
  rw [List.getElem?_map, rg_get (by omega)]
  show some (g ((v.toNat : Nat) : Int)) = _
  rw [show ((v.toNat : Nat) : Int) = v by omega]
theorem get_app (S X : Sto) (k : Nat) : (S ++ X)[S.length + k]? = X[k]? := by
  rw [List.getElem?_append_right (Nat.le_add_right _ _), Nat.add_sub_cancel_left]
theorem set_app (S X : Sto) (k : Nat) (o : MO) : (S ++ X).set (S.length + k) o = S ++ X.set k o := by
  rw [List.set_append_right _ _ (Nat.le_add_right _ _), Nat.add_sub_cancel_left]
theorem zeroL (h1 : 2 ≤ c) (h2 : c ≤ 5) : dMul (.lst [.int 0]) (.int c) = some (.lst ((rgI c).map fun _ => .int 0)) := by
  rcases (show c = 2 ∨ c = 3 ∨ c = 4 ∨ c = 5 by omega) with rfl | rfl | rfl | rfl <;> rfl
theorem rg_at? {j : Nat} {v : Int} (h : (rgI c)[j]? = some v) : v = j ∧ j < c := by
  unfold rgI at h
  rw [List.getElem?_map] at h
  by_cases hj : j < c
  · rw [List.getElem?_range hj] at h
    exact ⟨(Option.some.inj h).symm, hj⟩
  · rw [List.getElem?_eq_none (by rw [List.length_range]; omega)] at h
    cases h
theorem rows_rep : ∀ c : Nat, rowsM q0 c = List.replicate c (.lst ((rgI c).map fun _ => .int 0)) := fun c => by
  unfold rowsM rowL q0
  rw [List.map_const', rg_len]
abbrev cBody : Gx := gAs (f2 dAdd (f2S dIx (f2S dIx (fVar 2) (fVar 4)) (fVar 3)) (fVar 5)) (tfSubE (f2S dIx (fVar 2) (fVar 4)) (fVar 3))
theorem c_step (q : Qs) {m : Mt} (hm : MtOk c m) (s0 s1 s6 : Sl) : cBody [s0, s1, .own (refsD S.length c), .val (.int m.1), .val (.int m.2.1), .val (.int (sgn m.2.2)), s6] (S ++ rowsM q c) = .nx [s0, s1, .own (refsD S.length c), .val (.int m.1), .val (.int m.2.1), .val (.int (sgn m.2.2)), s6] (S ++ rowsM (upd q m) c) := by
  let ρ : Rho := [s0, s1, .own (refsD S.length c), .val (.int m.1), .val (.int m.2.1), .val (.int (sgn m.2.2)), s6]
  let S1 : Sto := S ++ rowsM q c
  have h1 := rg_mem.mp hm.1
  have h2 := rg_mem.mp hm.2.1
  have er : f2S dIx (fVar 2) (fVar 4) ρ S1 = .ok (refD S.length m.2.1) S1 := f2S_ok (fVar_own rfl) (fVar_val rfl) (dIx_at (xs := refsD S.length c) (j := m.2.1.toNat) rfl (by omega) (get_rgG hm.2.1))
  have at1 : S1[S.length + m.2.1.toNat]? = some (.lst (rowL q c m.2.1)) := (get_app S (rowsM q c) _).trans (get_rgG hm.2.1)
  have rs : (refD S.length m.2.1).res S1 = .lst (rowL q c m.2.1) := by
    unfold refD D.res
    simp only [at1]
  have e1 : dIx S1 (refD S.length m.2.1) (.int m.1) = some (.int (q m.2.1 m.1)) := by
    unfold dIx
    simp only [rs, D.items, Option.bind_some]
    rw [show m.1 = ((m.1.toNat : Nat) : Int) by omega]
    refine atI_nat ?_
    rw [show ((m.1.toNat : Nat) : Int) = m.1 by omega]
    exact get_rgG hm.1
  refine gAs_ok (f2_ok (f2S_ok er (fVar_val rfl) e1) (fVar_val rfl) addI) ?_
  have ms : moSet (.lst (rowL q c m.2.1)) (.int m.1) (.int (q m.2.1 m.1 + sgn m.2.2)) = some (.lst ((rowL q c m.2.1).set m.1.toNat (.int (q m.2.1 m.1 + sgn m.2.2)))) := moSet_at (by omega) (by unfold rowL; rw [List.length_map, rg_len]; omega)
  have fin : S1.set (S.length + m.2.1.toNat) (.lst ((rowL q c m.2.1).set m.1.toNat (.int (q m.2.1 m.1 + sgn m.2.2)))) = S ++ rowsM (upd q m) c := by
    rw [set_app]
    congr 1
    unfold rowsM
    rw [set_rgG hm.2.1]
    refine List.map_congr_left fun u _ => ?_
    by_cases eu : u = m.2.1
    · rw [if_pos eu, eu]
      congr 1
      unfold rowL
      rw [set_rgG hm.1]
      refine List.map_congr_left fun o _ => ?_
      show (if o = m.1 then D.int (q m.2.1 m.1 + sgn m.2.2) else .int (q m.2.1 o)) = .int (if m.2.1 = m.2.1 ∧ m.1 = o then q m.2.1 o + sgn m.2.2 else q m.2.1 o)
      by_cases eo : o = m.1
      · rw [if_pos eo, if_pos ⟨rfl, eo.symm⟩, eo]
      · rw [if_neg eo, if_neg fun h => eo h.2.symm]
    · rw [if_neg eu]
      congr 1
      unfold rowL
      refine List.map_congr_left fun o _ => ?_
      show D.int (q u o) = .int (if m.2.1 = u ∧ m.1 = o then q u o + sgn m.2.2 else q u o)
      rw [if_neg fun h => eu h.1.symm]
  unfold tfSubE
  rw [er]
  simp only [thenG]
  show (match refD S.length m.2.1 with
    | .ref n => thenG (fVar 3 ρ S1) ρ fun k S2 => (match (S2[n]?).bind fun o => moSet o k (.int (q m.2.1 m.1 + sgn m.2.2)) with
      | some o => .nx ρ (S2.set n o)
      | none => .stuck)
    | _ => .stuck) = _
  unfold refD
  simp only
  rw [show fVar 3 ρ S1 = .ok (.int m.1) S1 from fVar_val rfl]
  simp only [thenG, at1, Option.bind_some, ms]
  rw [fin]
theorem met_ok (h : RowOk c r) : ∀ m ∈ metF (rgI c) r, MtOk c m := fun m hm => by
  have k := met_mem r (rgI c) h.fits m hm
  exact ⟨k.1, k.2, met_ne r _ (nodup_rg c) h.fits m hm⟩
abbrev meetT2 : Tf := tfOf (tnTup 3 (tnCons (tnName 3) (tnCons (tnName 4) (tnCons (tnName 5) tnNil))))
theorem c_loop (s0 s1 s6 : Sl) : ∀ (ms : List Mt) (q : Qs) (a b d : Sl), (∀ m ∈ ms, MtOk c m) → ∃ a' b' d', forG meetT2 cBody (ms.map metD) [s0, s1, .own (refsD S.length c), a, b, d, s6] (S ++ rowsM q c) = .nx [s0, s1, .own (refsD S.length c), a', b', d', s6] (S ++ rowsM (cntF q ms) c)
  | [], q, a, b, d, _ => ⟨a, b, d, rfl⟩
  | m :: ms, q, a, b, d, h => by
    obtain ⟨a', b', d', e⟩ := c_loop s0 s1 s6 ms (upd q m) (.val (.int m.1)) (.val (.int m.2.1)) (.val (.int (sgn m.2.2))) fun x hx => h x (List.mem_cons_of_mem _ hx)
    refine ⟨a', b', d', ?_⟩
    rw [List.map_cons, forG_cons (ρ1 := [s0, s1, .own (refsD S.length c), .val (.int m.1), .val (.int m.2.1), .val (.int (sgn m.2.2)), s6]) rfl (c_step q (h m List.mem_cons_self) s0 s1 s6)]
    exact e
theorem l_counts (z : Bool) (h : RowOk c r) : F_law_counts [.int c, rowD z r] S = .ok (.lst (refsD S.length c)) (S ++ rowsM (cn c r) c) := by
  let ρ0 : Rho := [.val (.int c), .val (rowD z r), .emp, .emp, .emp, .emp, .emp]
  have e0 : F_law_counts [.int c, rowD z r] S = fbR (g_law_counts ρ0 S) := (def0_fb (by rfl)).trans rfl
  let St : Nat → Sto := fun k => S ++ List.replicate k (.lst ((rgI c).map fun _ => .int 0))
  have St0 : St 0 = S := List.append_nil S
  have lc := fLc_st (vs := [6]) (ρ := ρ0) (S := S) (fi := fRange1 (fCons (fVar 0) fNil)) (t := tnName 6) (fe := fToS (f2 dMul (fLst (fCons (fC (.int 0)) fNil)) (fVar 0))) D.int (refD S.length) St (rgI c) (by rw [St0]; exact rg_for rfl h.2.1) (fun j x hx => by
    obtain ⟨rfl, hj⟩ := rg_at? hx
    refine ⟨[.val (.int c), .val (rowD z r), .emp, .emp, .emp, .emp, .val (.int (j : Nat))], rfl, ?_⟩
    unfold fToS
    rw [f2_ok (fLst_ok (cons1 (kI 0))) (fVar_val (i := 0) (d := .int c) rfl) (zeroL h.1 h.2.1)]
    show Res.ok (.ref (St j).length) (St j ++ [.lst ((rgI c).map fun _ => .int 0)]) = _
    have l1 : (St j).length = S.length + ((j : Nat) : Int).toNat := by
      show (S ++ List.replicate j _).length = _
      rw [List.length_append, List.length_replicate]
      omega
    have l2 : St j ++ [.lst ((rgI c).map fun _ => .int 0)] = St (j + 1) := by
      show (S ++ List.replicate j _) ++ [_] = S ++ List.replicate (j + 1) _
      rw [List.append_assoc, List.replicate_succ']
    rw [l1, l2]
    rfl) (by rw [rg_len]; have := h.2.1; omega)
  have StC : St (rgI c).length = S ++ rowsM q0 c := by
    show S ++ List.replicate (rgI c).length _ = _
    rw [rg_len, rows_rep]
  rw [StC] at lc
  obtain ⟨a', b', d', lp⟩ := c_loop (S := S) (.val (.int c)) (.val (rowD z r)) .emp (metF (rgI c) r) q0 .emp .emp .emp (met_ok h)
  have it : fItems (f2S dIx (fDef F_law_walk (fCons (fVar 0) (fCons (fVar 1) fNil))) (fC (.int 0))) [.val (.int c), .val (rowD z r), .own (refsD S.length c), .emp, .emp, .emp, .emp] (S ++ rowsM q0 c) = .ok ((metF (rgI c) r).map metD) (S ++ rowsM q0 c) := by
    unfold fItems
    rw [f2S_ok ((fDef_ok (cons2 (fVar_val rfl) (fVar_val rfl))).trans (l_walk z h)) (kI 0) (dIx_at (j := 0) (d := .lst ((metF (rgI c) r).map metD)) rfl rfl rfl)]
    rfl
  rw [e0]
  unfold g_law_counts
  refine (congrArg fbR (gSeq_nx (gSet_ok lc))).trans ?_
  refine (congrArg fbR (gSeq_nx ((gFor_ok it).trans lp))).trans ?_
  refine (congrArg fbR (gRetV_own rfl)).trans ?_
  rfl
end
end K14

set_option Elab.async false
set_option linter.all false
set_option maxRecDepth 100000
/-! C8: k14's plain law: law's own forms -/
namespace K14
open PySem PySem.Spec L2 QL
open PyProof.Rows hiding St cutD
section
variable {S S1 S2 : Sto} {ρ : Rho} {c n t : Nat} {r r2 : List Cr} {cu : Cu} {l : List Int} {x : Cr} {d e : D} {fi fv : Fx} {i : Nat}
def lawC (cu : Cu) (c : Nat) (r : List Cr) (v : Int) : D := if isCnt cu = true then kD true (rq (mdC cu) (cn c r)) c v else .int v
def lawD (cu : Cu) (c : Nat) (r : List Cr) : D := .tup true ((lastF (rgI c) r).map (lawC cu c r))
theorem kD_py (z z' : Bool) (q : Qs) (c : Nat) (v : Int) : D.py (kD z q c v) = D.py (kD z' q c v) := by
  unfold kD
  simp only [D.py, D.pys]
theorem form_py (cu : Cu) (c : Nat) (r : List Cr) : D.py (formD cu c r) = D.py (lawD cu c r) := by
  unfold formD lawD
  simp only [D.py, pys_map, List.map_map]
  congr 1
  refine List.map_congr_left fun v _ => ?_
  show D.py (cellC cu c (formS cu c r) v) = D.py (lawC cu c r v)
  unfold cellC lawC
  by_cases h : isCnt cu = true
  · rw [if_pos h, if_pos h, show (formS cu c r).2 = cn c r from step_snd _ _]
    exact kD_py _ _ _ _ _
  · rw [if_neg h, if_neg h]
/-- the rows up to k are locked -/
def rowsK (q : Qs) (c k : Nat) : Sto := (rgI c).map fun u => if u < (k : Int) then .fl (rowL q c u) else .lst (rowL q c u)
theorem rowsK_0 (q : Qs) (c : Nat) : rowsK q c 0 = rowsM q c := by
  unfold rowsK rowsM
  refine List.map_congr_left fun u hu => ?_
  have := rg_mem.mp hu
  rw [if_neg (by omega)]
theorem rowsK_set (q : Qs) {c j : Nat} (hj : j < c) : (rowsK q c j).set j (.fl (rowL q c j)) = rowsK q c (j + 1) := by
  have e := set_rgG (c := c) (g := fun u => if u < j then MO.fl (rowL q c u) else .lst (rowL q c u)) (d := .fl (rowL q c j)) (v := (j : Int)) (rg_mem.mpr ⟨by omega, by omega⟩)
  rw [Int.toNat_natCast] at e
  unfold rowsK
  rw [e]
  refine List.map_congr_left fun u _ => ?_
  by_cases h1 : u = (j : Int)
  · rw [if_pos h1, if_pos (by omega), h1]
  · rw [if_neg h1]
    by_cases h2 : u < (j : Int)
    · rw [if_pos h2, if_pos (by omega)]
    · rw [if_neg h2, if_neg (by omega)]
theorem last_mem {v : Int} (hv : v ∈ lastF (rgI c) r) : v ∈ rgI c := (last_perm r _).mem_iff.mp hv
theorem last_l (h : RowOk c r) : (lastF (rgI c) r).length ≤ 1000000 := by rw [last_length, rg_len]; have := h.2.1; omega
theorem l_forms (z : Bool) (h : RowOk c r) (cu : Cu) : ∃ X, F_law_forms [.int c, rowD z r, .str (nmC cu), .int 0] S = .ok (lawD cu c r) (S ++ X) := by
  let o : D := ordD (lastF (rgI c) r)
  let ρ0 : Rho := [.val (.int c), .val (rowD z r), .val (.str (nmC cu)), .val (.int 0), .emp, .emp, .emp, .emp, .emp, .emp, .emp, .emp, .emp, .emp]
  let ρ1 : Rho := [.val (.int c), .val (rowD z r), .val (.str (nmC cu)), .val (.int 0), .val o, .emp, .emp, .emp, .emp, .emp, .emp, .emp, .emp, .emp]
  have e0 : F_law_forms [.int c, rowD z r, .str (nmC cu), .int 0] S = fbR (g_law_forms ρ0 S) := (def0_fb (by rfl)).trans rfl
  have s1 : gSetR 4 (f2S dIx (fDef F_law_walk (fCons (fVar 0) (fCons (fVar 1) fNil))) (fC (.int 1))) ρ0 S = .nx ρ1 S := gSetR_ok (f2S_ok ((fDef_ok (cons2 (fVar_val rfl) (fVar_val rfl))).trans (l_walk z h)) (kI 1) (dIx_at (j := 1) (d := o) rfl rfl rfl))
  have t1 : f2S dIn (fVar 2) (fTup true (fCons (fC (.str "any")) (fCons (fC (.str "back")) fNil))) ρ1 S = .ok (.bl false) S := f2S_ok (fVar_val (i := 2) rfl) (fTup_ok (cons2 (kS "any") (kS "back"))) (in_terms cu S)
  have t2 : f2S dEqS (fVar 2) (fC (.str "through")) ρ1 S = .ok (.bl false) S := f2S_ok (fVar_val (i := 2) rfl) (kS "through") ((d_eqS S _ _).trans (by rw [is_through]))
  have t3 : f2S dEqS (fVar 2) (fC (.str "never")) ρ1 S = .ok (.bl !isCnt cu) S := f2S_ok (fVar_val (i := 2) rfl) (kS "never") ((d_eqS S _ _).trans (by rw [is_never]))
  by_cases hc : isCnt cu = true
  · have t3' : f2S dEqS (fVar 2) (fC (.str "never")) ρ1 S = .ok (.bl false) S := by rw [t3, hc]; rfl
    let ρ2 : Rho := [.val (.int c), .val (rowD z r), .val (.str (nmC cu)), .val (.int 0), .val o, .emp, .emp, .emp, .emp, .emp, .own (refsD S.length c), .emp, .emp, .emp]
    let S1 : Sto := S ++ rowsM (cn c r) c
    have s5 : gSet 10 (fDef F_law_counts (fCons (fVar 0) (fCons (fVar 1) fNil))) ρ1 S = .nx ρ2 S1 := gSet_ok ((fDef_ok (cons2 (fVar_val (i := 0) rfl) (fVar_val (i := 1) rfl))).trans (l_counts z h))
    have t6 : f2S dEqS (fVar 2) (fC (.str "twice")) ρ2 S1 = .ok (.bl (mdC cu)) S1 := f2S_ok (fVar_val (i := 2) rfl) (kS "twice") ((d_eqS S1 _ _).trans (by rw [is_twice]))
    by_cases hm : mdC cu = true
    · rw [hm] at t6
      let q : Qs := cn c r
      let two : Int → D := fun v => .lst ((rgI c).map fun o => .int (red true (q v o)))
      let St : Nat → Sto := fun k => S ++ rowsK q c k
      let S2 : Sto := St (rgI c).length
      let ρ3 : Rho := [.val (.int c), .val (rowD z r), .val (.str (nmC cu)), .val (.int 0), .val o, .emp, .emp, .emp, .emp, .emp, .own ((rgI c).map two), .emp, .emp, .emp]
      have lc := fLc_st (vs := [12]) (ρ := ρ2) (S := S1) (fi := fItems (fVar 10)) (t := tnName 12) (fe := fLc [13] (fItemsL (fVar 12)) (tnName 13) fYes (f2 dMod (fCall dInt (fCons (fVar 13) fNil)) (fC (.int 2)))) (refD S.length) two St (rgI c) (by
          show fItems (fVar 10) ρ2 S1 = .ok (refsD S.length c) (S ++ rowsK q c 0)
          rw [rowsK_0]
          rfl) (fun j x hx => by
        obtain ⟨rfl, hj⟩ := rg_at? hx
        refine ⟨[.val (.int c), .val (rowD z r), .val (.str (nmC cu)), .val (.int 0), .val o, .emp, .emp, .emp, .emp, .emp, .own (refsD S.length c), .emp, .val (refD S.length j), .emp], rfl, ?_⟩
        have at1 : (St j)[S.length + j]? = some (.lst (rowL q c j)) := by
          refine (get_app S (rowsK q c j) j).trans ?_
          have := get_rgG (c := c) (g := fun u => if u < j then MO.fl (rowL q c u) else .lst (rowL q c u)) (v := (j : Int)) (rg_mem.mpr ⟨by omega, by omega⟩)
          rw [Int.toNat_natCast, if_neg (by omega)] at this
          exact this
        refine fLc_map (enc := D.int) (f := fun i => .int (red true i)) (xs := (rgI c).map (q j)) (S1 := St (j + 1)) (ds := rowL q c j) ?_ (by unfold rowL; rw [List.map_map]; rfl) (fun i hi => ?_) (by rw [List.length_map, rg_len]; have := h.2.1; omega) |>.trans ?_
        · unfold fItemsL
          rw [show fVar 12 [.val (.int c), .val (rowD z r), .val (.str (nmC cu)), .val (.int 0), .val o, .emp, .emp, .emp, .emp, .emp, .own (refsD S.length c), .emp, .val (refD S.length j), .emp] (St j) = .ok (.ref (S.length + j)) (St j) from rfl]
          simp only [at1]
          have eS : (St j).set (S.length + j) (.fl (rowL q c j)) = St (j + 1) := by
            show (S ++ rowsK q c j).set (S.length + j) _ = S ++ rowsK q c (j + 1)
            rw [set_app, rowsK_set q hj]
          rw [eS]
        · refine ⟨[.val (.int c), .val (rowD z r), .val (.str (nmC cu)), .val (.int 0), .val o, .emp, .emp, .emp, .emp, .emp, .own (refsD S.length c), .emp, .val (refD S.length j), .val (.int i)], rfl, ?_⟩
          refine f2_ok (fCall_ok (g := dInt) (cons1 (fVar_val rfl)) intI) (kI 2) ((modI (by decide)).trans ?_)
          rw [Int.fmod_eq_emod_of_nonneg _ (by decide)]
          rfl
        · rw [List.map_map]
          rfl) (by rw [rg_len]; have := h.2.1; omega)
      have s6 : gIf (f2S dEqS (fVar 2) (fC (.str "twice"))) (gSet 10 (fLc [12] (fItems (fVar 10)) (tnName 12) fYes (fLc [13] (fItemsL (fVar 12)) (tnName 13) fYes (f2 dMod (fCall dInt (fCons (fVar 13) fNil)) (fC (.int 2)))))) gNext ρ2 S1 = .nx ρ3 S2 := (gIf_t t6).trans (gSet_ok lc)
      have fin := tup_ok (cons1 (fLc_map (vs := [11]) (ρ := ρ3) (fi := fItems (fVar 4)) (t := tnName 11) (fe := fTup true (fCons (fCall dTup (fCons (f2S dIx (fVar 10) (fVar 11)) fNil)) (fCons (fVarR 11) fNil))) (S := S2) (S1 := S2) (ds := cordsD (lastF (rgI c) r)) D.int (lawC cu c r) (lastF (rgI c) r) rfl rfl (fun v hv => by
        refine ⟨[.val (.int c), .val (rowD z r), .val (.str (nmC cu)), .val (.int 0), .val o, .emp, .emp, .emp, .emp, .emp, .own ((rgI c).map two), .val (.int v), .emp, .emp], rfl, ?_⟩
        have e : lawC cu c r v = .tup true [.tup true ((rgI c).map fun o => .int (red true (q v o))), .int v] := by
          unfold lawC
          rw [if_pos hc, hm]
          rfl
        rw [e]
        have hv' := rg_mem.mp (last_mem hv)
        exact fTup_ok (cons2 (tup_ok (cons1 (f2S_ok (fVar_own rfl) (fVar_val rfl) (dIx_at (xs := (rgI c).map two) (j := v.toNat) rfl (by omega) (get_rgG (last_mem hv)))))) (fVarR_val rfl))) (last_l h)))
      refine ⟨rowsK q c (rgI c).length, ?_⟩
      rw [e0]
      unfold g_law_forms
      refine (congrArg fbR (gSeq_nx s1)).trans ?_
      refine (congrArg fbR (gSeq_nx (gIfN t1))).trans ?_
      refine (congrArg fbR (gSeq_nx (gIfN t2))).trans ?_
      refine (congrArg fbR (gSeq_nx (gIfN t3'))).trans ?_
      refine (congrArg fbR (gSeq_nx s5)).trans ?_
      refine (congrArg fbR (gSeq_nx s6)).trans ?_
      exact congrArg fbR (gRet_ok fin)
    · have hm' : mdC cu = false := by simpa using hm
      rw [hm'] at t6
      have fin := tup_ok (cons1 (fLc_map (vs := [11]) (ρ := ρ2) (fi := fItems (fVar 4)) (t := tnName 11) (fe := fTup true (fCons (fCall dTup (fCons (f2S dIx (fVar 10) (fVar 11)) fNil)) (fCons (fVarR 11) fNil))) (S := S1) (S1 := S1) (ds := cordsD (lastF (rgI c) r)) D.int (lawC cu c r) (lastF (rgI c) r) rfl rfl (fun v hv => by
        refine ⟨[.val (.int c), .val (rowD z r), .val (.str (nmC cu)), .val (.int 0), .val o, .emp, .emp, .emp, .emp, .emp, .own (refsD S.length c), .val (.int v), .emp, .emp], rfl, ?_⟩
        have e : lawC cu c r v = .tup true [.tup true (rowL (cn c r) c v), .int v] := by
          unfold lawC
          rw [if_pos hc, hm']
          rfl
        rw [e]
        have hv' := rg_mem.mp (last_mem hv)
        have at1 : S1[S.length + v.toNat]? = some (.lst (rowL (cn c r) c v)) := (get_app S (rowsM (cn c r) c) _).trans (get_rgG (last_mem hv))
        have tp : dTup S1 [refD S.length v] = some (.tup true (rowL (cn c r) c v)) := by
          unfold dTup refD D.res
          simp only [at1]
        exact fTup_ok (cons2 (fCall_ok (cons1 (f2S_ok (fVar_own rfl) (fVar_val rfl) (dIx_at (xs := refsD S.length c) (j := v.toNat) rfl (by omega) (get_rgG (last_mem hv))))) tp) (fVarR_val rfl))) (last_l h)))
      refine ⟨rowsM (cn c r) c, ?_⟩
      rw [e0]
      unfold g_law_forms
      refine (congrArg fbR (gSeq_nx s1)).trans ?_
      refine (congrArg fbR (gSeq_nx (gIfN t1))).trans ?_
      refine (congrArg fbR (gSeq_nx (gIfN t2))).trans ?_
      refine (congrArg fbR (gSeq_nx (gIfN t3'))).trans ?_
      refine (congrArg fbR (gSeq_nx s5)).trans ?_
      refine (congrArg fbR (gSeq_nx (gIfN t6))).trans ?_
      exact congrArg fbR (gRet_ok fin)
  · have hc' : isCnt cu = false := by simpa using hc
    have t3' : f2S dEqS (fVar 2) (fC (.str "never")) ρ1 S = .ok (.bl true) S := by rw [t3, hc']; rfl
    have e : lawD cu c r = o := by
      show lawD cu c r = ordD (lastF (rgI c) r)
      unfold lawD ordD cordsD
      congr 1
      refine List.map_congr_left fun v _ => ?_
      unfold lawC
      rw [if_neg hc]
    refine ⟨[], ?_⟩
    rw [e0, e, List.append_nil]
    unfold g_law_forms
    refine (congrArg fbR (gSeq_nx s1)).trans ?_
    refine (congrArg fbR (gSeq_nx (gIfN t1))).trans ?_
    refine (congrArg fbR (gSeq_nx (gIfN t2))).trans ?_
    exact congrArg fbR (gSeq_ret ((gIf_t t3').trans (gRetV_val rfl rfl)))
/-! by the pairs -/
theorem get_Tg {b : Nat} {p : Int × Int} (h : S[b]? = some (.dctT (pKs c (pr c r)))) (hp : p ∈ pairsL c) (z : Bool) : dGetT S (.ref b) (.tup z [.int p.1, .int p.2]) = some (.int (pr c r p)) := by
  unfold dGetT
  simp only [h, Option.bind_some]
  show (dKeys (.tup z [.int p.1, .int p.2])).bind (valD (pKs c (pr c r))) = _
  exact val_P hp
abbrev tInner : Gx := (gIf (f2S dEqS (fVar 6) (fVar 4))
    (gApp 5 (fC (.int 0)))
    (gApp 5 (fIf (f2 dLtI (fVar 6) (fVar 4)) (f2 dDiv (f2 dAdd (f2S dGetT (fVar 2) (fTup true (fCons (fVarR 6) (fCons (fVarR 4) fNil)))) (fC (.int 1))) (fC (.int 2))) (f2 dDiv (f2S dGetT (fVar 2) (fTup true (fCons (fVarR 4) (fCons (fVarR 6) fNil)))) (fC (.int 2))))))
theorem t_step {b : Nat} (hS : S[b]? = some (.dctT (pKs c (pr c r)))) (h : RowOk c r) {v w : Int} (hv : v ∈ rgI c) (hw : w ∈ rgI c) (s0 s1 s3 : Sl) (acc : List D) (ha : acc.length < 1000) :
    tInner [s0, s1, .val (.ref b), s3, .val (.int v), .own acc, .val (.int w)] S = .nx [s0, s1, .val (.ref b), s3, .val (.int v), .own (acc ++ [.int (cn c r v w)]), .val (.int w)] S := by
  let ρ : Rho := [s0, s1, .val (.ref b), s3, .val (.int v), .own acc, .val (.int w)]
  have tt : f2S dEqS (fVar 6) (fVar 4) ρ S = .ok (.bl (decide (w = v))) S := f2S_ok (fVar_val rfl) (fVar_val rfl) (eqI _ _)
  by_cases e : w = v
  · rw [decide_eq_true e] at tt
    rw [e, cn_diag h]
    refine (gIf_t ?_).trans (gApp_ok rfl (kI 0) (by omega))
    exact f2S_ok (fVar_val rfl) (fVar_val rfl) ((eqI _ _).trans (by rw [decide_eq_true rfl]))
  · rw [decide_eq_false e] at tt
    refine (gIf_f tt).trans (gApp_ok rfl (fIf_ok (b := decide (w < v)) (S1 := S) (f2_ok (fVar_val rfl) (fVar_val rfl) rfl) (fun q => ?_) (fun q => ?_)) (by omega))
    · have lt := of_decide_eq_true q
      rw [← (pr_div h hw hv lt).2]
      exact f2_ok (f2_ok (f2S_ok (fVar_val rfl) (fTup_ok (cons2 (fVarR_val rfl) (fVarR_val rfl))) (get_Tg (p := (w, v)) hS (mem_pairs.mpr ⟨hw, hv, lt⟩) true)) (kI 1) addI) (kI 2) (divI (by decide) (by decide))
    · have nl := of_decide_eq_false q
      have lt : v < w := by omega
      rw [← (pr_div h hv hw lt).1]
      exact f2_ok (f2S_ok (fVar_val rfl) (fTup_ok (cons2 (fVarR_val rfl) (fVarR_val rfl))) (get_Tg (p := (v, w)) hS (mem_pairs.mpr ⟨hv, hw, lt⟩) true)) (kI 2) (divI (by decide) (by decide))
theorem t_inner {b : Nat} (hS : S[b]? = some (.dctT (pKs c (pr c r)))) (h : RowOk c r) {v : Int} (hv : v ∈ rgI c) (s0 s1 s3 : Sl) : ∀ (ws : List Int) (acc : List D) (s : Sl), (∀ w ∈ ws, w ∈ rgI c) → acc.length + ws.length < 1000 → ∃ s', forG (tfOf (tnName 6)) tInner (ws.map D.int) [s0, s1, .val (.ref b), s3, .val (.int v), .own acc, s] S = .nx [s0, s1, .val (.ref b), s3, .val (.int v), .own (acc ++ ws.map fun w => .int (cn c r v w)), s'] S
  | [], acc, s, _, _ => ⟨s, congrArg (fun z => SRes.nx [s0, s1, .val (.ref b), s3, .val (.int v), .own z, s] S) (List.append_nil acc).symm⟩
  | w :: ws, acc, s, hw, n => by
    rw [List.length_cons] at n
    obtain ⟨s', e⟩ := t_inner hS h hv s0 s1 s3 ws (acc ++ [.int (cn c r v w)]) (.val (.int w)) (fun y hy => hw y (List.mem_cons_of_mem _ hy)) (by rw [List.length_append, List.length_singleton]; omega)
    refine ⟨s', ?_⟩
    rw [List.map_cons, forG_cons (ρ1 := [s0, s1, .val (.ref b), s3, .val (.int v), .own acc, .val (.int w)]) rfl (t_step hS h hv (hw w List.mem_cons_self) s0 s1 s3 acc (by omega)), e, List.append_assoc]
    rfl
abbrev tBody : Gx := (gSeq (gSet 5 (fLst fNil))
    (gSeq (gFor (fRange1 (fCons (fVar 0) fNil)) (tfOf (tnName 6)) tInner)
    (gApp 3 (fTup true (fCons (fCall dTup (fCons (fVar 5) fNil)) (fCons (fVarR 4) fNil))))))
theorem t_loop {b : Nat} (hS : S[b]? = some (.dctT (pKs c (pr c r)))) (h : RowOk c r) (s1 : Sl) : ∀ (vs : List Int) (acc : List D) (a s k : Sl), (∀ v ∈ vs, v ∈ rgI c) → acc.length + vs.length < 1000 → ∃ a' s' k', forG (tfOf (tnName 4)) tBody (vs.map D.int) [.val (.int c), s1, .val (.ref b), .own acc, a, s, k] S = .nx [.val (.int c), s1, .val (.ref b), .own (acc ++ vs.map (kD true (cn c r) c)), a', s', k'] S
  | [], acc, a, s, k, _, _ => ⟨a, s, k, congrArg (fun z => SRes.nx [.val (.int c), s1, .val (.ref b), .own z, a, s, k] S) (List.append_nil acc).symm⟩
  | v :: vs, acc, a, s, k, hv, n => by
    rw [List.length_cons] at n
    obtain ⟨k1, e1⟩ := t_inner hS h (hv v List.mem_cons_self) (.val (.int c)) s1 (.own acc) (rgI c) [] k (fun w hw => hw) (by rw [rg_len]; have := h.2.1; simp; omega)
    obtain ⟨a', s', k', e⟩ := t_loop hS h s1 vs (acc ++ [kD true (cn c r) c v]) (.val (.int v)) (.own ([] ++ (rgI c).map fun w => .int (cn c r v w))) k1 (fun y hy => hv y (List.mem_cons_of_mem _ hy)) (by rw [List.length_append, List.length_singleton]; omega)
    refine ⟨a', s', k', ?_⟩
    rw [List.map_cons, forG_cons (ρ1 := [.val (.int c), s1, .val (.ref b), .own acc, .val (.int v), s, k]) (ρ2 := [.val (.int c), s1, .val (.ref b), .own (acc ++ [kD true (cn c r) c v]), .val (.int v), .own ([] ++ (rgI c).map fun w => .int (cn c r v w)), k1]) rfl, e, List.append_assoc]
    · rfl
    · have u1 : gSet 5 (fLst fNil) [.val (.int c), s1, .val (.ref b), .own acc, .val (.int v), s, k] S = .nx [.val (.int c), s1, .val (.ref b), .own acc, .val (.int v), .own [], k] S := gSet_ok (fLst_ok (ds := []) rfl)
      refine (gSeq_nx u1).trans ((gSeq_nx ((gFor_ok (rg_for rfl h.2.1)).trans e1)).trans ?_)
      exact gApp_ok rfl (fTup_ok (cons2 (tup_ok (cons1 (fVar_own rfl))) (fVarR_val rfl))) (by omega)
theorem l_told {b : Nat} (hS : S[b]? = some (.dctT (pKs c (pr c r)))) (h : RowOk c r) : F_law_told_by_pairs [.int c, ordD (lastF (rgI c) r), .ref b] S = .ok (lawD .be c r) S := by
  let ρ0 : Rho := [.val (.int c), .val (ordD (lastF (rgI c) r)), .val (.ref b), .emp, .emp, .emp, .emp]
  have e0 : F_law_told_by_pairs [.int c, ordD (lastF (rgI c) r), .ref b] S = fbR (g_law_told_by_pairs ρ0 S) := (def0_fb (by rfl)).trans rfl
  have s1 : gSet 3 (fLst fNil) ρ0 S = .nx [.val (.int c), .val (ordD (lastF (rgI c) r)), .val (.ref b), .own [], .emp, .emp, .emp] S := gSet_ok (fLst_ok (ds := []) rfl)
  obtain ⟨a', s', k', e⟩ := t_loop hS h (.val (ordD (lastF (rgI c) r))) (lastF (rgI c) r) [] .emp .emp .emp (fun v hv => last_mem hv) (by rw [last_length, rg_len]; have := h.2.1; simp; omega)
  rw [e0]
  unfold g_law_told_by_pairs
  refine (congrArg fbR (gSeq_nx s1)).trans ?_
  refine (congrArg fbR (gSeq_nx ((gFor_ok (ds := cordsD (lastF (rgI c) r)) rfl).trans e))).trans ?_
  refine (congrArg fbR (gRet_ok (tup_ok (cons1 (fVar_own rfl))))).trans ?_
  rfl
end
end K14

set_option Elab.async false
set_option linter.all false
set_option maxRecDepth 100000
/-! C9: k14's plain law: pair numbers told; what is like -/
namespace K14
open PySem PySem.Spec L2 QL
open PyProof.Rows hiding St cutD
section
variable {S S1 S2 : Sto} {ρ : Rho} {c n t : Nat} {r r2 : List Cr} {cu : Cu} {l : List Int} {x : Cr} {d e : D} {fi fv fa fb : Fx} {i : Nat} {g : Gx}
def triD (c : Nat) (r : List Cr) (p : Int × Int) : D := .tup true [.int p.1, .int p.2, .int (pr c r p)]
def dueL (c : Nat) (r : List Cr) : List D := (pairsL c).map (triD c r)
theorem pairs_len (h : RowOk c r) : (pairsL c).length ≤ 10 := (pairs_up h.1 h.2.1).2
theorem need_both (z : Bool) (h : RowOk c r) (ht : hasTab "need_row" S = true) (h0 : ρ[0]? = some (.val (.int c))) (h1 : ρ[1]? = some (.val (rowD z r))) : gExpr (fDef F_need_row (fCons (fDef F_need_cords (fCons (fVar 0) fNil)) (fCons (fVar 1) fNil))) ρ S = .nx ρ S :=
  gExpr_ok ((fDef_ok (cons2 ((fDef_ok (cons1 (fVar_val (i := 0) h0))).trans (e_cords (by have := h.1; omega) (by have := h.2.1; omega) S)) (fVar_val (i := 1) h1))).trans (e_row z h ht))
theorem x1 (c : Nat) (f : Fs) : (pKs c f).map (fun kv => D.tup false [kyD kv.1, kv.2]) = (pairsL c).map fun p => .tup false [.tup false [.int p.1, .int p.2], .int (f p)] := by
  unfold pKs pKl
  rw [List.map_map]
  exact List.map_congr_left fun p _ => rfl
theorem x2 (z : Bool) (h : RowOk c r) : fDef F_pair_in (fCons (fVar 0) (fCons (fVar 1) fNil)) [.val (.int c), .val (rowD z r), .emp, .emp, .emp] S = .ok (.ref S.length) (S ++ [.dctT (pKs c (pr c r))]) := (fDef_ok (ds := [.int c, rowD z r]) (cons2 (fVar_val rfl) (fVar_val rfl))).trans (e_pair_in z h)
theorem x3 {f : Fx} {kvs : List (List Key × D)} (q : f ρ S = .ok (.ref S.length) (S ++ [.dctT kvs])) : fItemsT f ρ S = .ok (kvs.map fun kv => .tup false [kyD kv.1, kv.2]) (S ++ [.fdT kvs]) := by
  have g1 := get_end S (.dctT kvs)
  have g2 := set_end S (.dctT kvs) (.fdT kvs)
  unfold fItemsT
  rw [q]
  simp only [g1, g2]
theorem tri_items (z : Bool) (h : RowOk c r) : fItemsT (fDef F_pair_in (fCons (fVar 0) (fCons (fVar 1) fNil))) [.val (.int c), .val (rowD z r), .emp, .emp, .emp] S = .ok ((pairsL c).map fun p => .tup false [.tup false [.int p.1, .int p.2], .int (pr c r p)]) (S ++ [.fdT (pKs c (pr c r))]) := by
  have e := x3 (x2 (S := S) z h)
  rw [x1] at e
  exact e
theorem tri_lc (z : Bool) (h : RowOk c r) : fCall dTup (fCons (fLc [2, 3, 4] (fItemsT (fDef F_pair_in (fCons (fVar 0) (fCons (fVar 1) fNil)))) (tnTup 2 (tnCons (tnTup 2 (tnCons (tnName 2) (tnCons (tnName 3) tnNil))) (tnCons (tnName 4) tnNil))) fYes (fTup true (fCons (fVarR 2) (fCons (fVarR 3) (fCons (fVarR 4) fNil))))) fNil) [.val (.int c), .val (rowD z r), .emp, .emp, .emp] S = .ok (.tup true (dueL c r)) (S ++ [.fdT (pKs c (pr c r))]) := by
  refine tup_ok (cons1 (fLc_map (fun p => .tup false [.tup false [.int p.1, .int p.2], .int (pr c r p)]) (triD c r) (pairsL c) (tri_items z h) rfl (fun p hp => ?_) (by have := pairs_len h; omega)))
  exact ⟨[.val (.int c), .val (rowD z r), .val (.int p.1), .val (.int p.2), .val (.int (pr c r p))], rfl, fTup_ok (cons3 (fVarR_val rfl) (fVarR_val rfl) (fVarR_val rfl))⟩
theorem e_pair_numbers (z : Bool) (h : RowOk c r) (ht : hasTab "need_row" S = true) : F_pair_numbers [.int c, rowD z r] S = .ok (.tup true (dueL c r)) (S ++ [.fdT (pKs c (pr c r))]) := by
  have e0 : F_pair_numbers [.int c, rowD z r] S = fbR (g_pair_numbers [.val (.int c), .val (rowD z r), .emp, .emp, .emp] S) := (def0_fb (by rfl)).trans rfl
  rw [e0]
  unfold g_pair_numbers
  refine (congrArg fbR (gSeq_nx (need_both z h ht rfl rfl))).trans ?_
  exact congrArg fbR (gRet_ok (tri_lc z h))
theorem e_pair_number (z : Bool) (h : RowOk c r) (ht : hasTab "need_row" S = true) {p : Int × Int} (hp : p ∈ pairsL c) : F_pair_number [.int c, rowD z r, .int p.1, .int p.2] S = .ok (.int (pr c r p)) (S ++ [.dctT (pKs c (pr c r))]) := by
  let ρ0 : Rho := [.val (.int c), .val (rowD z r), .val (.int p.1), .val (.int p.2)]
  have e0 : F_pair_number [.int c, rowD z r, .int p.1, .int p.2] S = fbR (g_pair_number ρ0 S) := (def0_fb (by rfl)).trans rfl
  obtain ⟨m1, m2, lt⟩ := mem_pairs.mp hp
  have n1 := rg_mem.mp m1
  have n2 := rg_mem.mp m2
  have t1 : gIf (fNot (fDef F_is_within (fCons (fVar 2) (fCons (fC (.int 0)) (fCons (f2 dSub (fVar 0) (fC (.int 1))) fNil))))) gNever gNext ρ0 S = .nx ρ0 S := by
    have e := (fDef_ok (F := F_is_within) (cons3 (ρ := ρ0) (S := S) (fVar_val (i := 2) rfl) (kI 0) (f2_ok (fVar_val (i := 0) rfl) (kI 1) subI))).trans (e_within p.1 0 (c - 1) S)
    rw [decide_eq_true (show 0 ≤ p.1 ∧ p.1 ≤ (c : Int) - 1 from ⟨n1.1, by omega⟩)] at e
    exact gIfN (fNot_ok e)
  have t2 : gIf (fNot (fDef F_is_within (fCons (fVar 3) (fCons (f2 dAdd (fVar 2) (fC (.int 1))) (fCons (f2 dSub (fVar 0) (fC (.int 1))) fNil))))) gNever gNext ρ0 S = .nx ρ0 S := by
    have e := (fDef_ok (F := F_is_within) (cons3 (ρ := ρ0) (S := S) (fVar_val (i := 3) rfl) (f2_ok (fVar_val (i := 2) rfl) (kI 1) addI) (f2_ok (fVar_val (i := 0) rfl) (kI 1) subI))).trans (e_within p.2 (p.1 + 1) (c - 1) S)
    rw [decide_eq_true (show p.1 + 1 ≤ p.2 ∧ p.2 ≤ (c : Int) - 1 from ⟨by omega, by omega⟩)] at e
    exact gIfN (fNot_ok e)
  rw [e0]
  unfold g_pair_number
  refine (congrArg fbR (gSeq_nx (need_both z h ht rfl rfl))).trans ?_
  refine (congrArg fbR (gSeq_nx t1)).trans ?_
  refine (congrArg fbR (gSeq_nx t2)).trans ?_
  exact congrArg fbR (gRet_ok (fNl_ok (f2S_ok ((fDef_ok (cons2 (fVar_val rfl) (fVar_val rfl))).trans (e_pair_in z h)) (fTup_ok (cons2 (fVarR_val (d := .int p.1) rfl) (fVarR_val (d := .int p.2) rfl))) (get_T p hp (pr c r) true)) rfl))
theorem sort_T {b : Nat} (h : RowOk c r) (hS : S[b]? = some (.dctT (pKs c (pr c r)))) : dSortT S [.ref b] = some (.lst ((pairsL c).map fun p => .tup false [.int p.1, .int p.2])) := by
  have k : (pKs c (pr c r)).map (·.1) = (pairsL c).map kyP := by unfold pKs pKl; rw [List.map_map]; rfl
  have k2 : (pKs c (pr c r)).map (fun kv => kyD kv.1) = (pairsL c).map fun p => .tup false [.int p.1, .int p.2] := by unfold pKs pKl; rw [List.map_map]; rfl
  unfold dSortT
  simp only [hS, Option.bind_some, moT]
  rw [k, if_pos (pairs_up h.1 h.2.1).1, k2]
/-! what is shown -/
theorem good_w0 : ∀ i : Fin 256, goodY 0 4 (.int ((i.val : Int) - 128)) := by decide +kernel
theorem good_w {i : Int} (h : -128 ≤ i) (h2 : i < 128) : goodY 0 4 (D.py (.int i)) := by
  have := good_w0 ⟨(i + 128).toNat, by omega⟩
  have q : (((i + 128).toNat : Nat) : Int) - 128 = i := by omega
  rw [q] at this
  rw [py_int]; exact this
theorem rq_le (h : RowOk c r) (md : Bool) (u o : Int) : -60 ≤ rq md (cn c r) u o ∧ rq md (cn c r) u o ≤ 60 := by
  have := cn_le h u o
  unfold rq red
  cases md
  · exact this
  · show -60 ≤ cn c r u o % 2 ∧ cn c r u o % 2 ≤ 60
    omega
theorem good_law (cu : Cu) (h : RowOk c r) : goodY 3 378 (D.py (lawD cu c r)) := by
  unfold lawD
  refine good_tupD (k := 2) (m := 73) (n := 5) (fun d hd => ?_) (by rw [List.length_map, last_length, rg_len]; exact h.2.1)
  obtain ⟨v, hv, rfl⟩ := List.mem_map.mp hd
  have hv' := rg_mem.mp (last_mem hv)
  have := h.2.1
  unfold lawC
  by_cases hc : isCnt cu = true
  · rw [if_pos hc]
    unfold kD
    refine (good_tupD (k := 1) (m := 33) (n := 2) (fun d hd => ?_) (by simp)).up (by decide) (by decide)
    rcases List.mem_cons.mp hd with rfl | hd
    · refine good_tupD (k := 0) (m := 4) (n := 5) (fun d hd => ?_) (by rw [List.length_map, rg_len]; exact h.2.1)
      obtain ⟨o, ho, rfl⟩ := List.mem_map.mp hd
      have := rq_le h (mdC cu) v o
      exact good_w (by omega) (by omega)
    · rw [List.mem_singleton.mp hd]
      exact (good_w (by omega) (by omega)).up (by decide) (by decide)
  · rw [if_neg hc]
    exact (good_w (by omega) (by omega)).up (by decide) (by decide)
theorem pr_pair (h : RowOk c r) {p : Int × Int} (hp : p ∈ pairsL c) : -120 ≤ pr c r p ∧ pr c r p ≤ 120 := pr_le h (mem_pairs.mp hp).2.2
theorem good_due (h : RowOk c r) : goodY 2 233 (D.py (.tup true (dueL c r))) := by
  refine good_tupD (k := 1) (m := 21) (n := 10) (fun d hd => ?_) (by unfold dueL; rw [List.length_map]; exact pairs_len h)
  obtain ⟨p, hp, rfl⟩ := List.mem_map.mp hd
  have m := mem_pairs.mp hp
  have m1 := rg_mem.mp m.1
  have m2 := rg_mem.mp m.2.1
  have := h.2.1
  have w := pr_pair h hp
  unfold triD
  refine good_tupD (k := 0) (m := 4) (n := 3) (fun d hd => ?_) (by simp)
  rcases List.mem_cons.mp hd with rfl | hd
  · exact good_w (by omega) (by omega)
  rcases List.mem_cons.mp hd with rfl | hd
  · exact good_w (by omega) (by omega)
  · rw [List.mem_singleton.mp hd]; exact good_w (by omega) (by omega)
def numL (c : Nat) (r : List Cr) : List D := (pairsL c).map fun p => .int (pr c r p)
theorem good_num (h : RowOk c r) : goodY 1 63 (D.py (.lst (numL c r))) := by
  refine good_lstD (k := 0) (m := 4) (n := 10) (fun d hd => ?_) (by unfold numL; rw [List.length_map]; exact pairs_len h)
  obtain ⟨p, hp, rfl⟩ := List.mem_map.mp hd
  have w := pr_pair h hp
  exact good_w (by omega) (by omega)
theorem good_bl (b : Bool) : goodY 0 5 (D.py (.bl b)) := by
  have e : D.py (.bl b) = .bool b := by unfold D.py; rfl
  rw [e]
  cases b <;> decide +kernel
theorem st_like2 (ha : fa ρ S = .ok d S1) (hb : fb ρ S1 = .ok e S2) (h : goodY 20 1000000 (d.res S2).py) (q : (e.res S2).py = (d.res S2).py) :
    gIf (fNot (fDef F_law_like (fCons fa (fCons fb fNil)))) g gNext ρ S = .nx ρ S2 := gIfN (fNot_ok ((fDef_ok (cons2 ha hb)).trans (like_ok h q)))
/-- when two forms are the same -/
def same (cu : Cu) (c : Nat) (r r2 : List Cr) : Bool := PyData.eqv (D.py (lawD cu c r)) (D.py (lawD cu c r2))
theorem eq_law (h : RowOk c r) (h2 : RowOk c r2) : dEqB (lawD cu c r) (lawD cu c r2) = some (same cu c r r2) := by
  have s1 := good_shaped (good_law cu h) (by decide)
  have s2 := good_shaped (good_law cu h2) (by decide)
  show (if SeqAt.shaped (D.py (lawD cu c r)) = true ∧ SeqAt.shaped (D.py (lawD cu c r2)) = true then some (PyData.eqv (D.py (lawD cu c r)) (D.py (lawD cu c r2))) else none) = _
  rw [if_pos ⟨s1, s2⟩]
  rfl
theorem eq_form (h : RowOk c r) (h2 : RowOk c r2) : dEqB (formD cu c r) (formD cu c r2) = some (same cu c r r2) := by
  have s1 := good_shaped (good_law cu h) (by decide)
  have s2 := good_shaped (good_law cu h2) (by decide)
  show (if SeqAt.shaped (D.py (formD cu c r)) = true ∧ SeqAt.shaped (D.py (formD cu c r2)) = true then some (PyData.eqv (D.py (formD cu c r)) (D.py (formD cu c r2))) else none) = _
  rw [form_py, form_py, if_pos ⟨s1, s2⟩]
  rfl
theorem same_comm (cu : Cu) (c : Nat) (r r2 : List Cr) : same cu c r r2 = same cu c r2 r := PySem.W.eqv_comm _ _
theorem get_left {b : Nat} {o : MO} (h : S[b]? = some o) (X : Sto) : (S ++ X)[b]? = some o := by
  rw [List.getElem?_append_left (List.getElem?_eq_some_iff.mp h).1]; exact h
end
end K14

set_option Elab.async false
set_option linter.all false
set_option maxRecDepth 100000
/-! C10: k14's plain law: a turn of the law -/
namespace K14
open PySem PySem.Spec L2 QL
open PyProof.Rows hiding St cutD
section
variable {S S1 S2 : Sto} {ρ : Rho} {c : Nat} {r r2 : List Cr} {n : Int} {cs gs : List Int} {T : Sto}
abbrev lw (s m t c r fr p o due said a b k told cu same pr : Sl) : Rho := [s, m, t, c, r, fr, p, o, due, said, a, b, k, told, cu, same, pr]
abbrev cuBody : Gx := (gSeq (gIf (fNot (fDef F_law_like (fCons (fDef F_forms_of (fCons (fVar 3) (fCons (fVar 4) (fCons (fVar 14) fNil)))) (fCons (fDef F_law_forms (fCons (fVar 3) (fCons (fVar 4) (fCons (fVar 14) (fCons (fC (.int 0)) fNil))))) fNil))))
    (gRet (fC (.bl false)))
    gNext)
    (gSeq (gSet 15 (f2S dEqS (fDef F_law_forms (fCons (fVar 3) (fCons (fVar 4) (fCons (fVar 14) (fCons (fC (.int 0)) fNil))))) (fDef F_law_forms (fCons (fVar 3) (fCons (fVar 5) (fCons (fVar 14) (fCons (fC (.int 0)) fNil)))))))
    (gSeq (gSet 9 (fLst (fCons (fDef F_are_alike (fCons (fVar 3) (fCons (fVar 4) (fCons (fVar 5) (fCons (fVar 14) fNil))))) (fCons (fDef F_are_alike (fCons (fVar 3) (fCons (fVar 5) (fCons (fVar 4) (fCons (fVar 14) fNil))))) fNil))))
    (gIf (fNot (fDef F_law_like (fCons (fVar 9) (fCons (fLst (fCons (fVarR 15) (fCons (fVarR 15) fNil))) fNil))))
    (gRet (fC (.bl false)))
    gNext))))
theorem cu_step (h : RowOk c r) (h2 : RowOk c r2) (ht : hasTab "need_row" S = true) (cu : Cu) (s m t p o due said a b k told sm pp : Sl) : ∃ said' sm' X,
    cuBody (lw s m t (.val (.int c)) (.val (rowD true r)) (.val (rowD true r2)) p o due said a b k told (.val (.str (nmC cu))) sm pp) S = .nx (lw s m t (.val (.int c)) (.val (rowD true r)) (.val (rowD true r2)) p o due said' a b k told (.val (.str (nmC cu))) sm' pp) (S ++ X) := by
  let ρ0 : Rho := lw s m t (.val (.int c)) (.val (rowD true r)) (.val (rowD true r2)) p o due said a b k told (.val (.str (nmC cu))) sm pp
  obtain ⟨X1, e1⟩ := e_forms_of (S := S) true h ht cu
  obtain ⟨X2, e2⟩ := l_forms (S := S ++ X1) true h cu
  have s1 := st_like2 (g := gRet (fC (.bl false))) (ρ := ρ0) (S := S) (S1 := S ++ X1) (S2 := (S ++ X1) ++ X2) ((fDef_ok (F := F_forms_of) (cons3 (fVar_val (i := 3) rfl) (fVar_val (i := 4) rfl) (fVar_val (i := 14) rfl))).trans e1) ((fDef_ok (F := F_law_forms) (cons4 (fVar_val (i := 3) rfl) (fVar_val (i := 4) rfl) (fVar_val (i := 14) rfl) (kI 0))).trans e2) (by
    show goodY 20 1000000 (D.py (formD cu c r))
    rw [form_py]
    exact (good_law cu h).up (by decide) (by decide)) (form_py cu c r).symm
  obtain ⟨X3, e3⟩ := l_forms (S := (S ++ X1) ++ X2) true h cu
  obtain ⟨X4, e4⟩ := l_forms (S := ((S ++ X1) ++ X2) ++ X3) true h2 cu
  have dq : dEqS ((((S ++ X1) ++ X2) ++ X3) ++ X4) (lawD cu c r) (lawD cu c r2) = some (.bl (same cu c r r2)) := by
    show (dEqB (lawD cu c r) (lawD cu c r2)).map D.bl = _
    rw [eq_law h h2]; rfl
  have s2 := gSet_ok (i := 15) (f2S_ok (ρ := ρ0) ((fDef_ok (F := F_law_forms) (cons4 (fVar_val (i := 3) rfl) (fVar_val (i := 4) rfl) (fVar_val (i := 14) rfl) (kI 0))).trans e3) ((fDef_ok (F := F_law_forms) (cons4 (fVar_val (i := 3) rfl) (fVar_val (i := 5) rfl) (fVar_val (i := 14) rfl) (kI 0))).trans e4) dq)
  let ρ1 : Rho := lw s m t (.val (.int c)) (.val (rowD true r)) (.val (rowD true r2)) p o due said a b k told (.val (.str (nmC cu))) (.val (.bl (same cu c r r2))) pp
  obtain ⟨X5, e5⟩ := e_are_alike (S := (((S ++ X1) ++ X2) ++ X3) ++ X4) true true h h2 (tab_app (tab_app (tab_app (tab_app ht _) _) _) _) cu (b := same cu c r r2) (by rw [eq_form h2 h, same_comm])
  obtain ⟨X6, e6⟩ := e_are_alike (S := ((((S ++ X1) ++ X2) ++ X3) ++ X4) ++ X5) true true h2 h (tab_app (tab_app (tab_app (tab_app (tab_app ht _) _) _) _) _) cu (b := same cu c r r2) (eq_form h h2)
  have s3 := gSet_ok (i := 9) (fLst_ok (ds := [.bl (same cu c r r2), .bl (same cu c r r2)]) (cons2 (ρ := ρ1) ((fDef_ok (F := F_are_alike) (cons4 (fVar_val (i := 3) rfl) (fVar_val (i := 4) rfl) (fVar_val (i := 5) rfl) (fVar_val (i := 14) rfl))).trans e5) ((fDef_ok (F := F_are_alike) (cons4 (fVar_val (i := 3) rfl) (fVar_val (i := 5) rfl) (fVar_val (i := 4) rfl) (fVar_val (i := 14) rfl))).trans e6)))
  let ρ2 : Rho := lw s m t (.val (.int c)) (.val (rowD true r)) (.val (rowD true r2)) p o due (.own [.bl (same cu c r r2), .bl (same cu c r r2)]) a b k told (.val (.str (nmC cu))) (.val (.bl (same cu c r r2))) pp
  have s4 := st_like2 (g := gRet (fC (.bl false))) (ρ := ρ2) (S := (((((S ++ X1) ++ X2) ++ X3) ++ X4) ++ X5) ++ X6) (S1 := (((((S ++ X1) ++ X2) ++ X3) ++ X4) ++ X5) ++ X6) (S2 := (((((S ++ X1) ++ X2) ++ X3) ++ X4) ++ X5) ++ X6) (fa := fVar 9) (fb := fLst (fCons (fVarR 15) (fCons (fVarR 15) fNil))) (d := .lst [.bl (same cu c r r2), .bl (same cu c r r2)]) (e := .lst [.bl (same cu c r r2), .bl (same cu c r r2)]) (fVar_own rfl) (fLst_ok (cons2 (fVarR_val rfl) (fVarR_val rfl))) ((good_list2 (good_bl _) (good_bl _)).up (by decide) (by decide)) rfl
  refine ⟨.own [.bl (same cu c r r2), .bl (same cu c r r2)], .val (.bl (same cu c r r2)), X1 ++ (X2 ++ (X3 ++ (X4 ++ (X5 ++ X6)))), ?_⟩
  have ap : (((((S ++ X1) ++ X2) ++ X3) ++ X4) ++ X5) ++ X6 = S ++ (X1 ++ (X2 ++ (X3 ++ (X4 ++ (X5 ++ X6))))) := by simp only [List.append_assoc]
  rw [← ap]
  exact (gSeq_nx s1).trans ((gSeq_nx s2).trans ((gSeq_nx s3).trans s4))
theorem cu_all (h : RowOk c r) (h2 : RowOk c r2) (ht : hasTab "need_row" S = true) (s m t p o due said a b k told cu sm pp : Sl) : ∃ said' cu' sm' X,
    gFor (fItems (fTup true (fCons (fC (.str "began")) (fCons (fC (.str "twice")) (fCons (fC (.str "never")) fNil))))) (tfOf (tnName 14)) cuBody (lw s m t (.val (.int c)) (.val (rowD true r)) (.val (rowD true r2)) p o due said a b k told cu sm pp) S = .nx (lw s m t (.val (.int c)) (.val (rowD true r)) (.val (rowD true r2)) p o due said' a b k told cu' sm' pp) (S ++ X) := by
  let ρ0 : Rho := lw s m t (.val (.int c)) (.val (rowD true r)) (.val (rowD true r2)) p o due said a b k told cu sm pp
  have it : fItems (fTup true (fCons (fC (.str "began")) (fCons (fC (.str "twice")) (fCons (fC (.str "never")) fNil)))) ρ0 S = .ok ([Cu.be, Cu.tw, Cu.ne].map fun q => .str (nmC q)) S := by
    unfold fItems
    rw [fTup_ok (cons3 (kS "began") (kS "twice") (kS "never"))]
    rfl
  obtain ⟨ρ', S', e, said', cu', sm', X, rfl, rfl⟩ := forG_invN (tf := tfOf (tnName 14)) (g := cuBody) (fun _ ρ S' => ∃ said' cu' sm' X, ρ = lw s m t (.val (.int c)) (.val (rowD true r)) (.val (rowD true r2)) p o due said' a b k told cu' sm' pp ∧ S' = S ++ X) (fun q => .str (nmC q)) [Cu.be, Cu.tw, Cu.ne] 0 ρ0 S
    (fun q _ j ρ S' _ ⟨x1, x2, x3, X, hρ, hS⟩ => by
      subst hρ hS
      obtain ⟨y1, y3, Y, e⟩ := cu_step h h2 (tab_app ht X) q s m t p o due x1 a b k told x3 pp
      exact ⟨_, _, _, rfl, e, y1, _, y3, X ++ Y, rfl, List.append_assoc _ _ _⟩) ⟨said, cu, sm, [], rfl, (List.append_nil S).symm⟩
  exact ⟨said', cu', sm', X, (gFor_ok it).trans e⟩
/-! the pairs -/
abbrev parB : Gx := (gIf (f2S dNeS (f2 dMod (fCall dInt (fCons (fVar 12) fNil)) (fC (.int 2))) (fCall dInt (fCons (f2 dLtI (fIndex (fVar 7) (fVar 11)) (fIndex (fVar 7) (fVar 10))) fNil)))
    (gRet (fC (.bl false)))
    gNext)
abbrev duT : Tn := tnTup 3 (tnCons (tnName 10) (tnCons (tnName 11) (tnCons (tnName 12) tnNil)))
theorem par_step (h : RowOk c r) {p : Int × Int} (hp : p ∈ pairsL c) (s m t cc rr fr pp due said told cu sm pq : Sl) :
    parB (lw s m t cc rr fr pp (.val (ordD (lastF (rgI c) r))) due said (.val (.int p.1)) (.val (.int p.2)) (.val (.int (pr c r p))) told cu sm pq) S = .nx (lw s m t cc rr fr pp (.val (ordD (lastF (rgI c) r))) due said (.val (.int p.1)) (.val (.int p.2)) (.val (.int (pr c r p))) told cu sm pq) S := by
  obtain ⟨m1, m2, lt⟩ := mem_pairs.mp hp
  have pm := last_perm r (rgI c)
  have ll : (lastF (rgI c) r).length ≤ 1000000 := last_l h
  have e := pr_mod h m1 m2 lt
  let ρ : Rho := lw s m t cc rr fr pp (.val (ordD (lastF (rgI c) r))) due said (.val (.int p.1)) (.val (.int p.2)) (.val (.int (pr c r p))) told cu sm pq
  have i2 : fIndex (fVar 7) (fVar 11) ρ S = .ok (.int (placeF (lastF (rgI c) r) p.2 : Nat)) S := st_index (fVar_val rfl) (fVar_val rfl) (pm.mem_iff.mpr m2) ll
  have i1 : fIndex (fVar 7) (fVar 10) ρ S = .ok (.int (placeF (lastF (rgI c) r) p.1 : Nat)) S := st_index (fVar_val rfl) (fVar_val rfl) (pm.mem_iff.mpr m1) ll
  have a1 : f2 dMod (fCall dInt (fCons (fVar 12) fNil)) (fC (.int 2)) ρ S = .ok (.int (lf (lastF (rgI c) r) p.2 p.1)) S := by
    rw [← e]
    exact f2_ok (fCall_ok (g := dInt) (cons1 (fVar_val rfl)) intI) (kI 2) (modI (by decide))
  have a2 : fCall dInt (fCons (f2 dLtI (fIndex (fVar 7) (fVar 11)) (fIndex (fVar 7) (fVar 10))) fNil) ρ S = .ok (.int (lf (lastF (rgI c) r) p.2 p.1)) S := by
    refine fCall_ok (cons1 (f2_ok i2 i1 rfl)) ?_
    show some (D.int (if decide (((placeF (lastF (rgI c) r) p.2 : Nat) : Int) < ((placeF (lastF (rgI c) r) p.1 : Nat) : Int)) = true then 1 else 0)) = _
    unfold lf
    by_cases q : placeF (lastF (rgI c) r) p.2 < placeF (lastF (rgI c) r) p.1
    · rw [if_pos q, if_pos (decide_eq_true (by omega))]
    · rw [if_neg q, if_neg (by rw [decide_eq_false (by omega)]; decide)]
  refine gIfN ((f2S_ok a1 a2 (ne_int _ _)).trans ?_)
  rw [decide_eq_true rfl]
  rfl
theorem par_all (h : RowOk c r) (s m t cc rr fr pp due said a b k told cu sm pq : Sl) : ∃ a' b' k', forG (tfOf duT) parB (dueL c r) (lw s m t cc rr fr pp (.val (ordD (lastF (rgI c) r))) due said a b k told cu sm pq) S = .nx (lw s m t cc rr fr pp (.val (ordD (lastF (rgI c) r))) due said a' b' k' told cu sm pq) S := by
  obtain ⟨ρ', e, a', b', k', rfl⟩ := forG_inv (S := S) (tf := tfOf duT) (g := parB) (fun ρ => ∃ a' b' k', ρ = lw s m t cc rr fr pp (.val (ordD (lastF (rgI c) r))) due said a' b' k' told cu sm pq) (triD c r) (pairsL c) (lw s m t cc rr fr pp (.val (ordD (lastF (rgI c) r))) due said a b k told cu sm pq) (fun p hp ρ ⟨x1, x2, x3, hρ⟩ => by
    subst hρ
    exact ⟨_, _, rfl, par_step h hp s m t cc rr fr pp due said told cu sm pq, _, _, _, rfl⟩) ⟨a, b, k, rfl⟩
  exact ⟨a', b', k', e⟩
end
end K14

set_option Elab.async false
set_option linter.all false
set_option maxRecDepth 100000
/-! C11: k14's plain law: the law -/
namespace K14
open PySem PySem.Spec L2 QL
open PyProof.Rows hiding St cutD
section
variable {S S1 S2 : Sto} {ρ : Rho} {c : Nat} {r r2 : List Cr} {n : Int} {cs gs : List Int} {T : Sto}
abbrev turnB : Gx := (gSeq (gSet 3 (f2 dAdd (fC (.int 2)) (fDef F_law_draw (fCons (fVar 1) (fCons (fC (.int 4)) fNil)))))
    (gSeq (gSet 4 (fDef F_law_row (fCons (fVar 1) (fCons (fVar 3) (fCons (fC (.int 20)) fNil)))))
    (gSeq (gSet 5 (fDef F_law_near (fCons (fVar 1) (fCons (fVar 3) (fCons (fVar 4) fNil)))))
    (gSeq (gAs (fTup true (fCons (fDef F_law_pairs (fCons (fVar 3) (fCons (fVar 4) fNil))) (fCons (f2S dIx (fDef F_law_walk (fCons (fVar 3) (fCons (fVar 4) fNil))) (fC (.int 1))) fNil))) (tfTup 2 (tfCons (tfOf (tnName 6)) (tfCons (tfOf (tnName 7)) tfNil))))
    (gSeq (gSet 8 (fLc [16] (fItems (fCall dSortT (fCons (fVar 6) fNil))) (tnName 16) fYes (fTup true (fCons (f2S dIx (fVar 16) (fC (.int 0))) (fCons (f2S dIx (fVar 16) (fC (.int 1))) (fCons (f2S dGetT (fVar 6) (fVar 16)) fNil))))))
    (gSeq (gIf (fNot (fDef F_law_like (fCons (fDef F_pair_numbers (fCons (fVar 3) (fCons (fVar 4) fNil))) (fCons (fCall dTup (fCons (fVar 8) fNil)) fNil))))
    (gRet (fC (.bl false)))
    gNext)
    (gSeq (gSet 9 (fLc [10, 11, 12] (fItems (fVar 8)) (tnTup 3 (tnCons (tnName 10) (tnCons (tnName 11) (tnCons (tnName 12) tnNil)))) fYes (fDef F_pair_number (fCons (fVar 3) (fCons (fVar 4) (fCons (fVar 10) (fCons (fVar 11) fNil)))))))
    (gSeq (gIf (fNot (fDef F_law_like (fCons (fVar 9) (fCons (fLc [10, 11, 12] (fItems (fVar 8)) (tnTup 3 (tnCons (tnName 10) (tnCons (tnName 11) (tnCons (tnName 12) tnNil)))) fYes (fVarR 12)) fNil))))
    (gRet (fC (.bl false)))
    gNext)
    (gSeq (gFrz 8 (gFor (fSlot 8) (tfOf (tnTup 3 (tnCons (tnName 10) (tnCons (tnName 11) (tnCons (tnName 12) tnNil)))))
    (gIf (f2S dNeS (f2 dMod (fCall dInt (fCons (fVar 12) fNil)) (fC (.int 2))) (fCall dInt (fCons (f2 dLtI (fIndex (fVar 7) (fVar 11)) (fIndex (fVar 7) (fVar 10))) fNil)))
    (gRet (fC (.bl false)))
    gNext)))
    (gSeq (gSet 13 (fDef F_forms_of (fCons (fVar 3) (fCons (fVar 4) (fCons (fC (.str "began")) fNil)))))
    (gSeq (gIf (fNot (fDef F_law_like (fCons (fVar 13) (fCons (fDef F_law_told_by_pairs (fCons (fVar 3) (fCons (fVar 7) (fCons (fVar 6) fNil)))) fNil))))
    (gRet (fC (.bl false)))
    gNext)
    (gFor (fItems (fTup true (fCons (fC (.str "began")) (fCons (fC (.str "twice")) (fCons (fC (.str "never")) fNil))))) (tfOf (tnName 14))
    (gSeq (gIf (fNot (fDef F_law_like (fCons (fDef F_forms_of (fCons (fVar 3) (fCons (fVar 4) (fCons (fVar 14) fNil)))) (fCons (fDef F_law_forms (fCons (fVar 3) (fCons (fVar 4) (fCons (fVar 14) (fCons (fC (.int 0)) fNil))))) fNil))))
    (gRet (fC (.bl false)))
    gNext)
    (gSeq (gSet 15 (f2S dEqS (fDef F_law_forms (fCons (fVar 3) (fCons (fVar 4) (fCons (fVar 14) (fCons (fC (.int 0)) fNil))))) (fDef F_law_forms (fCons (fVar 3) (fCons (fVar 5) (fCons (fVar 14) (fCons (fC (.int 0)) fNil)))))))
    (gSeq (gSet 9 (fLst (fCons (fDef F_are_alike (fCons (fVar 3) (fCons (fVar 4) (fCons (fVar 5) (fCons (fVar 14) fNil))))) (fCons (fDef F_are_alike (fCons (fVar 3) (fCons (fVar 5) (fCons (fVar 4) (fCons (fVar 14) fNil))))) fNil))))
    (gIf (fNot (fDef F_law_like (fCons (fVar 9) (fCons (fLst (fCons (fVarR 15) (fCons (fVarR 15) fNil))) fNil))))
    (gRet (fC (.bl false)))
    gNext))))))))))))))))
theorem turn_step (hc : cs.length = 64) (hn : 0 ≤ n) (hn2 : n < 60000) (s t x3 x4 x5 x6 x7 x8 x9 x10 x11 x12 x13 x14 x15 x16 : Sl) : ∃ y3 y4 y5 y6 y7 y8 y9 y10 y11 y12 y13 y14 y15 y16 T' n' gs', n ≤ n' ∧ n' ≤ n + 140 ∧
    turnB (lw s (.val (.ref 1)) t x3 x4 x5 x6 x7 x8 x9 x10 x11 x12 x13 x14 x15 x16) (stD T cs gs n) = .nx (lw s (.val (.ref 1)) t y3 y4 y5 y6 y7 y8 y9 y10 y11 y12 y13 y14 y15 y16) (stD T' cs gs' n') := by
  obtain ⟨v, g1, v0, v1, h1⟩ := e_draw (T := T) (gs := gs) (lim := 4) hc hn (by omega) (by decide) (by decide)
  obtain ⟨c, hcc⟩ : ∃ c : Nat, 2 + v = (c : Int) := ⟨(2 + v).toNat, by omega⟩
  let m : Sl := .val (.ref 1)
  have s3 : gSet 3 (f2 dAdd (fC (.int 2)) (fDef F_law_draw (fCons (fVar 1) (fCons (fC (.int 4)) fNil)))) (lw s m t x3 x4 x5 x6 x7 x8 x9 x10 x11 x12 x13 x14 x15 x16) (stD T cs gs n) = .nx (lw s m t (.val (.int c)) x4 x5 x6 x7 x8 x9 x10 x11 x12 x13 x14 x15 x16) (stD T cs g1 (n + 1)) := by
    rw [← hcc]
    exact gSet_ok (f2_ok (kI 2) ((fDef_ok (cons2 (fVar_val rfl) (kI 4))).trans h1) addI)
  obtain ⟨r, n2, g2, hr, hl, m1, m2, h2⟩ := e_lawrow (T := T) (gs := g1) (n := n + 1) (c := c) hc (by omega) (by omega) (by omega) (by omega) (mo := 20) (by decide)
  have hR : RowOk c r := ⟨by omega, by omega, by omega, hr⟩
  have s4 := gSet_ok (i := 4) ((fDef_ok (F := F_law_row) (cons3 (ρ := lw s m t (.val (.int c)) x4 x5 x6 x7 x8 x9 x10 x11 x12 x13 x14 x15 x16) (fVar_val (i := 1) rfl) (fVar_val (i := 3) rfl) (kI 20))).trans h2)
  obtain ⟨r2, n3, g3, hR2, m3, m4, h3⟩ := e_lawnear (T := T) (gs := g2) (n := n2) hc (by omega) (by omega) hR hl
  have s5 := gSet_ok (i := 5) ((fDef_ok (F := F_law_near) (cons3 (ρ := lw s m t (.val (.int c)) (.val (rowD true r)) x5 x6 x7 x8 x9 x10 x11 x12 x13 x14 x15 x16) (fVar_val (i := 1) rfl) (fVar_val (i := 3) rfl) (fVar_val (i := 4) rfl))).trans h3)
  let Sa : Sto := stD T cs g3 n3
  have ht : hasTab "need_row" Sa = true := st_tab
  let o : D := ordD (lastF (rgI c) r)
  let S1 : Sto := Sa ++ [.dctT (pKs c (pr c r))]
  have hS1 : S1[Sa.length]? = some (.dctT (pKs c (pr c r))) := get_end _ _
  have s6 : gAs (fTup true (fCons (fDef F_law_pairs (fCons (fVar 3) (fCons (fVar 4) fNil))) (fCons (f2S dIx (fDef F_law_walk (fCons (fVar 3) (fCons (fVar 4) fNil))) (fC (.int 1))) fNil))) (tfTup 2 (tfCons (tfOf (tnName 6)) (tfCons (tfOf (tnName 7)) tfNil))) (lw s m t (.val (.int c)) (.val (rowD true r)) (.val (rowD true r2)) x6 x7 x8 x9 x10 x11 x12 x13 x14 x15 x16) Sa = .nx (lw s m t (.val (.int c)) (.val (rowD true r)) (.val (rowD true r2)) (.val (.ref Sa.length)) (.val o) x8 x9 x10 x11 x12 x13 x14 x15 x16) S1 :=
    gAs_ok (fTup_ok (cons2 ((fDef_ok (cons2 (fVar_val rfl) (fVar_val rfl))).trans (l_pairs true hR)) (f2S_ok ((fDef_ok (cons2 (fVar_val rfl) (fVar_val rfl))).trans (l_walk true hR)) (kI 1) (dIx_at (j := 1) (d := o) rfl rfl rfl)))) (tfTup2 rfl rfl)
  let ρ7 : Rho := lw s m t (.val (.int c)) (.val (rowD true r)) (.val (rowD true r2)) (.val (.ref Sa.length)) (.val o) x8 x9 x10 x11 x12 x13 x14 x15 x16
  have it8 : fItems (fCall dSortT (fCons (fVar 6) fNil)) ρ7 S1 = .ok ((pairsL c).map fun p => .tup false [.int p.1, .int p.2]) S1 := by
    unfold fItems
    rw [fCall_ok (cons1 (fVar_val (i := 6) rfl)) (sort_T hR hS1)]
    rfl
  have s8 := gSet_ok (i := 8) (fLc_map (vs := [16]) (ρ := ρ7) (fi := fItems (fCall dSortT (fCons (fVar 6) fNil))) (t := tnName 16) (fe := fTup true (fCons (f2S dIx (fVar 16) (fC (.int 0))) (fCons (f2S dIx (fVar 16) (fC (.int 1))) (fCons (f2S dGetT (fVar 6) (fVar 16)) fNil)))) (S := S1) (S1 := S1) (fun p => .tup false [.int p.1, .int p.2]) (triD c r) (pairsL c) it8 rfl (fun p hp => by
    refine ⟨lw s m t (.val (.int c)) (.val (rowD true r)) (.val (rowD true r2)) (.val (.ref Sa.length)) (.val o) x8 x9 x10 x11 x12 x13 x14 x15 (.val (.tup false [.int p.1, .int p.2])), rfl, ?_⟩
    exact fTup_ok (cons3 (f2S_ok (fVar_val rfl) (kI 0) (dIx_at (j := 0) rfl rfl rfl)) (f2S_ok (fVar_val rfl) (kI 1) (dIx_at (j := 1) rfl rfl rfl)) (f2S_ok (fVar_val rfl) (fVar_val rfl) (get_Tg hS1 hp false)))) (by have := pairs_len hR; omega))
  let ρ8 : Rho := lw s m t (.val (.int c)) (.val (rowD true r)) (.val (rowD true r2)) (.val (.ref Sa.length)) (.val o) (.own (dueL c r)) x9 x10 x11 x12 x13 x14 x15 x16
  let S2 : Sto := S1 ++ [.fdT (pKs c (pr c r))]
  have s9 := st_like2 (g := gRet (fC (.bl false))) (ρ := ρ8) (S := S1) (S1 := S2) (S2 := S2) (fb := fCall dTup (fCons (fVar 8) fNil)) ((fDef_ok (F := F_pair_numbers) (cons2 (fVar_val (i := 3) rfl) (fVar_val (i := 4) rfl))).trans (e_pair_numbers true hR (tab_app ht _))) (tup_ok (cons1 (fVar_own rfl))) ((good_due hR).up (by decide) (by decide)) rfl
  let St : Nat → Sto := fun k => S2 ++ List.replicate k (.dctT (pKs c (pr c r)))
  have St0 : St 0 = S2 := List.append_nil S2
  have lc10 := fLc_st (vs := [10, 11, 12]) (ρ := ρ8) (S := S2) (fi := fItems (fVar 8)) (t := duT) (fe := fDef F_pair_number (fCons (fVar 3) (fCons (fVar 4) (fCons (fVar 10) (fCons (fVar 11) fNil))))) (triD c r) (fun p => .int (pr c r p)) St (pairsL c) (by rw [St0]; rfl) (fun j p hj => by
    have hp := List.mem_of_getElem? hj
    refine ⟨lw s m t (.val (.int c)) (.val (rowD true r)) (.val (rowD true r2)) (.val (.ref Sa.length)) (.val o) (.own (dueL c r)) x9 (.val (.int p.1)) (.val (.int p.2)) (.val (.int (pr c r p))) x13 x14 x15 x16, rfl, ?_⟩
    have e : St j ++ [.dctT (pKs c (pr c r))] = St (j + 1) := by
      show (S2 ++ List.replicate j _) ++ [_] = S2 ++ List.replicate (j + 1) _
      rw [List.append_assoc, List.replicate_succ']
    rw [← e]
    exact (fDef_ok (cons4 (fVar_val rfl) (fVar_val rfl) (fVar_val rfl) (fVar_val rfl))).trans (e_pair_number true hR (tab_app (tab_app (tab_app ht _) _) _) hp)) (by have := pairs_len hR; omega)
  let S3 : Sto := St (pairsL c).length
  have s10 := gSet_ok (i := 9) lc10
  let ρ10 : Rho := lw s m t (.val (.int c)) (.val (rowD true r)) (.val (rowD true r2)) (.val (.ref Sa.length)) (.val o) (.own (dueL c r)) (.own (numL c r)) x10 x11 x12 x13 x14 x15 x16
  have lc11 := fLc_map (vs := [10, 11, 12]) (ρ := ρ10) (fi := fItems (fVar 8)) (t := duT) (fe := fVarR 12) (S := S3) (S1 := S3) (ds := dueL c r) (triD c r) (fun p => .int (pr c r p)) (pairsL c) rfl rfl (fun p hp => ⟨lw s m t (.val (.int c)) (.val (rowD true r)) (.val (rowD true r2)) (.val (.ref Sa.length)) (.val o) (.own (dueL c r)) (.own (numL c r)) (.val (.int p.1)) (.val (.int p.2)) (.val (.int (pr c r p))) x13 x14 x15 x16, rfl, fVarR_val rfl⟩) (by have := pairs_len hR; omega)
  have s11 := st_like2 (g := gRet (fC (.bl false))) (ρ := ρ10) (S := S3) (S1 := S3) (S2 := S3) (fa := fVar 9) (d := .lst (numL c r)) (fVar_own rfl) lc11 ((good_num hR).up (by decide) (by decide)) rfl
  obtain ⟨a', b', k', hpar⟩ := par_all (S := S3) hR s m t (.val (.int c)) (.val (rowD true r)) (.val (rowD true r2)) (.val (.ref Sa.length)) (.val (.lst (dueL c r))) (.own (numL c r)) x10 x11 x12 x13 x14 x15 x16
  have s12 : gFrz 8 (gFor (fSlot 8) (tfOf duT) parB) ρ10 S3 = .nx (lw s m t (.val (.int c)) (.val (rowD true r)) (.val (rowD true r2)) (.val (.ref Sa.length)) (.val o) (.val (.lst (dueL c r))) (.own (numL c r)) a' b' k' x13 x14 x15 x16) S3 := (gFrz_own (i := 8) rfl).trans ((gFor_ok (ds := dueL c r) rfl).trans hpar)
  have ht3 : hasTab "need_row" S3 = true := tab_app (tab_app (tab_app ht _) _) _
  obtain ⟨X1, e13⟩ := e_forms_of (S := S3) true hR ht3 .be
  have s13 := gSet_ok (i := 13) (ρ := lw s m t (.val (.int c)) (.val (rowD true r)) (.val (rowD true r2)) (.val (.ref Sa.length)) (.val o) (.val (.lst (dueL c r))) (.own (numL c r)) a' b' k' x13 x14 x15 x16) ((fDef_ok (F := F_forms_of) (cons3 (fVar_val (i := 3) rfl) (fVar_val (i := 4) rfl) (kS "began"))).trans e13)
  let ρ13 : Rho := lw s m t (.val (.int c)) (.val (rowD true r)) (.val (rowD true r2)) (.val (.ref Sa.length)) (.val o) (.val (.lst (dueL c r))) (.own (numL c r)) a' b' k' (.val (formD .be c r)) x14 x15 x16
  let S4 : Sto := S3 ++ X1
  have hS4 : S4[Sa.length]? = some (.dctT (pKs c (pr c r))) := get_left (get_left (get_left hS1 _) _) _
  have s14 := st_like2 (g := gRet (fC (.bl false))) (ρ := ρ13) (S := S4) (S1 := S4) (S2 := S4) (fa := fVar 13) (fb := fDef F_law_told_by_pairs (fCons (fVar 3) (fCons (fVar 7) (fCons (fVar 6) fNil)))) (d := formD .be c r) (fVar_val rfl) ((fDef_ok (cons3 (fVar_val rfl) (fVar_val rfl) (fVar_val rfl))).trans (l_told hS4 hR)) (by
    show goodY 20 1000000 (D.py (formD .be c r))
    rw [form_py]
    exact (good_law .be hR).up (by decide) (by decide)) (form_py .be c r).symm
  obtain ⟨y9, y14, y15, X2, s15⟩ := cu_all (S := S4) hR hR2 (tab_app ht3 _) s m t (.val (.ref Sa.length)) (.val o) (.val (.lst (dueL c r))) (.own (numL c r)) a' b' k' (.val (formD .be c r)) x14 x15 x16
  refine ⟨.val (.int c), .val (rowD true r), .val (rowD true r2), .val (.ref Sa.length), .val o, .val (.lst (dueL c r)), y9, a', b', k', .val (formD .be c r), y14, y15, x16, T ++ (([.dctT (pKs c (pr c r))] ++ [.fdT (pKs c (pr c r))]) ++ (List.replicate (pairsL c).length (.dctT (pKs c (pr c r))) ++ (X1 ++ X2))), n3, g3, by omega, by omega, ?_⟩
  have ap : S4 ++ X2 = stD (T ++ (([.dctT (pKs c (pr c r))] ++ [.fdT (pKs c (pr c r))]) ++ (List.replicate (pairsL c).length (.dctT (pKs c (pr c r))) ++ (X1 ++ X2)))) cs g3 n3 := by
    show (((((stD T cs g3 n3 ++ [.dctT (pKs c (pr c r))]) ++ [.fdT (pKs c (pr c r))]) ++ List.replicate (pairsL c).length (.dctT (pKs c (pr c r)))) ++ X1) ++ X2) = stD T cs g3 n3 ++ _
    simp only [List.append_assoc]
  rw [← ap]
  refine (gSeq_nx s3).trans ?_
  refine (gSeq_nx s4).trans ?_
  refine (gSeq_nx s5).trans ?_
  refine (gSeq_nx s6).trans ?_
  refine (gSeq_nx s8).trans ?_
  refine (gSeq_nx s9).trans ?_
  refine (gSeq_nx s10).trans ?_
  refine (gSeq_nx s11).trans ?_
  refine (gSeq_nx s12).trans ?_
  refine (gSeq_nx s13).trans ?_
  refine (gSeq_nx s14).trans ?_
  exact s15
theorem claim : ∀ ns : List Int, ns.length ≤ 63 → (∀ z ∈ ns, Builtin.Int.intBits z ≤ 1048576) → ∃ S', F_law [.frz (ns.map D.int)] ((["need_row"] : List Str).map MO.tab) = .ok (.bl true) S' := by
  intro ns hns _
  obtain ⟨cs, gs, hc, h0⟩ := e_begun ns hns
  let s : D := .frz (ns.map D.int)
  let ρ0 : Rho := lw (.val s) .emp .emp .emp .emp .emp .emp .emp .emp .emp .emp .emp .emp .emp .emp .emp .emp
  let ρ1 : Rho := lw (.val s) (.val (.ref 1)) .emp .emp .emp .emp .emp .emp .emp .emp .emp .emp .emp .emp .emp .emp .emp
  have s1 : gSet 1 (fDef F_law_begun (fCons (fVar 0) fNil)) ρ0 [.tab "need_row"] = .nx ρ1 (stD [] cs gs 0) := gSet_ok ((fDef_ok (F := F_law_begun) (cons1 (fVar_val (i := 0) rfl))).trans h0)
  obtain ⟨k, hk, hk2⟩ : ∃ k : Nat, (1 + (if (ns.length : Int) < 4 then (ns.length : Int) else 4)) = (k : Int) ∧ k ≤ 5 := by
    by_cases q : (ns.length : Int) < 4
    · rw [if_pos q]; exact ⟨1 + ns.length, by omega, by omega⟩
    · rw [if_neg q]; exact ⟨5, by omega, by omega⟩
  have fi : fRange1 (fCons (f2 dAdd (fC (.int 1)) (fCall dMin2 (fCons (fC (.int 4)) (fCons (fCall dLen (fCons (fVar 0) fNil)) fNil)))) fNil) ρ1 (stD [] cs gs 0) = .ok ((rgI k).map D.int) (stD [] cs gs 0) := by
    have dl : dLen (stD [] cs gs 0) [s] = some (.int ns.length) := by
      show some (D.int ((ns.map D.int).length : Nat)) = _
      rw [List.length_map]
    have e := f2_ok (kI 1) (fCall_ok (g := dMin2) (cons2 (ρ := ρ1) (S := stD [] cs gs 0) (kI 4) (fCall_ok (g := dLen) (cons1 (fVar_val (i := 0) rfl)) dl)) (show dMin2 _ [.int 4, .int ns.length] = some (.int (if (ns.length : Int) < 4 then (ns.length : Int) else 4)) from rfl)) addI
    unfold fRange1
    rw [cons1 e, hk]
    show aOf (rg1 [.int (k : Int)]) _ = _
    rw [rg_ints (by omega) (by omega)]
    rfl
  obtain ⟨ρ', S', h2, x2, x3, x4, x5, x6, x7, x8, x9, x10, x11, x12, x13, x14, x15, x16, T', n', gs', rfl, rfl, hn1, hn2⟩ := forG_invN (tf := tfOf (tnName 2)) (g := turnB) (fun j ρ S => ∃ x2 x3 x4 x5 x6 x7 x8 x9 x10 x11 x12 x13 x14 x15 x16 T' n' gs', ρ = lw (.val s) (.val (.ref 1)) x2 x3 x4 x5 x6 x7 x8 x9 x10 x11 x12 x13 x14 x15 x16 ∧ S = stD T' cs gs' n' ∧ 0 ≤ n' ∧ n' ≤ 140 * (j : Int)) D.int (rgI k) 0 ρ1 (stD [] cs gs 0)
    (fun v hv j ρ S hj ⟨x2, x3, x4, x5, x6, x7, x8, x9, x10, x11, x12, x13, x14, x15, x16, T', n', gs', hρ, hS, hn1, hn2⟩ => by
      subst hρ hS
      rw [rg_len] at hj
      obtain ⟨y3, y4, y5, y6, y7, y8, y9, y10, y11, y12, y13, y14, y15, y16, T2, n2, g2, m1, m2, e⟩ := turn_step (T := T') (gs := gs') hc hn1 (by omega) (.val s) (.val (.int v)) x3 x4 x5 x6 x7 x8 x9 x10 x11 x12 x13 x14 x15 x16
      exact ⟨_, _, _, rfl, e, _, y3, y4, y5, y6, y7, y8, y9, y10, y11, y12, y13, y14, y15, y16, T2, n2, g2, rfl, rfl, by omega, by omega⟩)
    ⟨.emp, .emp, .emp, .emp, .emp, .emp, .emp, .emp, .emp, .emp, .emp, .emp, .emp, .emp, .emp, [], 0, gs, rfl, rfl, by decide, by decide⟩
  refine ⟨stD T' cs gs' n', ?_⟩
  have e0 : F_law [.frz (ns.map D.int)] ((["need_row"] : List Str).map MO.tab) = fbR (g_law ρ0 [.tab "need_row"]) := (def0_fb (by rfl)).trans rfl
  rw [e0]
  unfold g_law
  refine (congrArg fbR (gSeq_nx s1)).trans ?_
  refine (congrArg fbR (gSeq_nx ((gFor_ok fi).trans h2))).trans ?_
  rfl
end
end K14

open PySem PySem.W PyProof.Rows
set_option maxRecDepth 100000 in
set_option maxHeartbeats 0 in
theorem PySem.Challenge.cw_cordrules_k14_whole_counts_and_pair_numb_holds : PySem.Challenge.rw_cordrules_k14_whole_counts_and_pair_numb.Holds := by
  w_on; o_law; k_head; (case hw => w_witness2)
  k_fill
  refine QL.walkG (n := 63) (k := 65) (Fl := K14.F_law) (ms := ["need_row"]) rfl (by decide) rfl ⟨rfl, by decide, by decide⟩ (fun w h Y => PySem.W.km_in_of Y) (by decide +kernel) ?F K14.claim
  case F =>
    intro w mg fa h KX G hmg
    refine' K14.all_mk ?t ?d0 ?d1 ?d2 ?d3 ?d4 ?d5 ?d6 ?d7 ?d8 ?d9 ?d10 ?d11 ?d12 ?d13 ?d14 ?d15 ?d16 ?d17 ?d18 ?d19 ?d20 ?d21 ?d22 ?d23 ?d24 ?d25 ?d26 ?d27 ?d28 ?d29 ?d30 ?d31 ?d32 ?d33 ?d34 ?d35 ?d36 ?d37 ?d38 ?b0
    case t =>
      refine' ⟨PySem.W.mg_none_of KX G ?z0, PySem.W.mg_none_of KX G ?z1, PySem.W.mg_none_of KX G ?z2, PySem.W.mg_none_of KX G ?z3, PySem.W.mg_none_of KX G ?z4, PySem.W.mg_none_of KX G ?z5, PySem.W.mg_none_of KX G ?z6, PySem.W.mg_none_of KX G ?z7, PySem.W.mg_none_of KX G ?z8, PySem.W.mg_none_of KX G ?z9, PySem.W.mg_none_of KX G ?z10, PySem.W.mg_none_of KX G ?z11, PySem.W.mg_none_of KX G ?z12, ?c0, ?c1, ?c2, ?c3, ?c4, ?c5, ?c6, ?c7, ?c8, ?c9, ?c10, ?c11, ?k0, ?k1, ?f0, ?f1, ?f2, ?f3, ?f4, ?f5, ?f6⟩
      (case z0 => k_is)
      (case z1 => k_is)
      (case z2 => k_is)
      (case z3 => k_is)
      (case z4 => k_is)
      (case z5 => k_is)
      (case z6 => k_is)
      (case z7 => k_is)
      (case z8 => k_is)
      (case z9 => k_is)
      (case z10 => k_is)
      (case z11 => k_is)
      (case z12 => k_is)
      (case c0 => (refine' QL.const_str KX G ?a; (case a => k_is)))
      (case c1 => (refine' QL.const_tup KX G ?a ?l ?r ?z; (case a => k_is); (case l => k_is); (case r => exact ⟨_, _, _, rfl, rfl, ⟨_, rfl⟩, ⟨_, _, _, rfl, rfl, ⟨_, rfl⟩, rfl⟩⟩); (case z => decide)))
      (case c2 => (refine' QL.const_tup KX G ?a ?l ?r ?z; (case a => k_is); (case l => k_is); (case r => exact ⟨_, _, _, rfl, rfl, ⟨_, rfl⟩, ⟨_, _, _, rfl, rfl, ⟨_, rfl⟩, ⟨_, _, _, rfl, rfl, ⟨_, rfl⟩, ⟨_, _, _, rfl, rfl, ⟨_, rfl⟩, ⟨_, _, _, rfl, rfl, ⟨_, rfl⟩, ⟨_, _, _, rfl, rfl, ⟨_, rfl⟩, rfl⟩⟩⟩⟩⟩⟩); (case z => decide)))
      (case c3 => (refine' QL.const_int KX G ?a; (case a => k_is)))
      (case c4 => (refine' QL.const_str KX G ?a; (case a => k_is)))
      (case c5 => (refine' QL.const_int KX G ?a; (case a => k_is)))
      (case c6 => (refine' QL.const_int KX G ?a; (case a => k_is)))
      (case c7 => (refine' QL.const_str KX G ?a; (case a => k_is)))
      (case c8 => (refine' QL.const_tup KX G ?a ?l ?r ?z; (case a => k_is); (case l => k_is); (case r => exact ⟨_, _, _, rfl, rfl, ⟨_, rfl⟩, ⟨_, _, _, rfl, rfl, ⟨_, rfl⟩, rfl⟩⟩); (case z => decide)))
      (case c9 => (refine' QL.const_tup KX G ?a ?l ?r ?z; (case a => k_is); (case l => k_is); (case r => exact ⟨_, _, _, rfl, rfl, ⟨_, rfl⟩, ⟨_, _, _, rfl, rfl, ⟨_, rfl⟩, rfl⟩⟩); (case z => decide)))
      (case c10 => (refine' QL.const_str KX G ?a; (case a => k_is)))
      (case c11 => (refine' QL.const_str KX G ?a; (case a => k_is)))
      (case k0 => (refine' QL.cls_t KX G ?a ?pg ?hd ?po ?sa; (case a => k_is); (case pg => k_is); (case hd => k_is); (case po => k_is); (case sa => k_is)))
      (case k1 => (refine' QL.cls_t KX G ?a ?pg ?hd ?po ?sa; (case a => k_is); (case pg => k_is); (case hd => k_is); (case po => k_is); (case sa => k_is)))
      (case f0 => (refine' QL.fld_t KX G ?a ?n; (case a => k_is); (case n => k_is)))
      (case f1 => (refine' QL.fld_t KX G ?a ?n; (case a => k_is); (case n => k_is)))
      (case f2 => (refine' QL.fld_t KX G ?a ?n; (case a => k_is); (case n => k_is)))
      (case f3 => (refine' QL.fld_t KX G ?a ?n; (case a => k_is); (case n => k_is)))
      (case f4 => (refine' QL.fld_t KX G ?a ?n; (case a => k_is); (case n => k_is)))
      (case f5 => (refine' QL.fld_t KX G ?a ?n; (case a => k_is); (case n => k_is)))
      (case f6 => (refine' QL.fld_t KX G ?a ?n; (case a => k_is); (case n => k_is)))
    (case d0 => (refine' QL.def_at KX G ?a ?l ?c ?k (fun _ _ _ _ _ _ us hl => match us, hl with | [_], _ => rfl); (case a => k_is); (case l => k_is); (case c => k_is); (case k => k_is)))
    (case d1 => (refine' QL.def_at KX G ?a ?l ?c ?k (fun _ _ _ _ _ _ us hl => match us, hl with | [_], _ => rfl); (case a => k_is); (case l => k_is); (case c => k_is); (case k => k_is)))
    (case d2 => (refine' QL.def_at KX G ?a ?l ?c ?k (fun _ _ _ _ _ _ us hl => match us, hl with | [_, _], _ => rfl); (case a => k_is); (case l => k_is); (case c => k_is); (case k => k_is)))
    (case d3 => (refine' QL.def_at KX G ?a ?l ?c ?k (fun _ _ _ _ _ _ us hl => match us, hl with | [_, _], _ => rfl); (case a => k_is); (case l => k_is); (case c => k_is); (case k => k_is)))
    (case d4 => (refine' QL.def_at KX G ?a ?l ?c ?k (fun _ _ _ _ _ _ us hl => match us, hl with | [_, _], _ => rfl); (case a => k_is); (case l => k_is); (case c => k_is); (case k => k_is)))
    (case d5 => (refine' QL.def_at KX G ?a ?l ?c ?k (fun _ _ _ _ _ _ us hl => match us, hl with | [_, _, _], _ => rfl); (case a => k_is); (case l => k_is); (case c => k_is); (case k => k_is)))
    (case d6 => (refine' QL.def_at KX G ?a ?l ?c ?k (fun _ _ _ _ _ _ us hl => match us, hl with | [_], _ => rfl); (case a => k_is); (case l => k_is); (case c => k_is); (case k => k_is)))
    (case d7 => (refine' QL.def_at KX G ?a ?l ?c ?k (fun _ _ _ _ _ _ us hl => match us, hl with | [_, _, _], _ => rfl); (case a => k_is); (case l => k_is); (case c => k_is); (case k => k_is)))
    (case d8 => (refine' QL.def_at KX G ?a ?l ?c ?k (fun _ _ _ _ _ _ us hl => match us, hl with | [_, _], _ => rfl); (case a => k_is); (case l => k_is); (case c => k_is); (case k => k_is)))
    (case d9 => (refine' QL.def_at KX G ?a ?l ?c ?k (fun _ _ _ _ _ _ us hl => match us, hl with | [_, _], _ => rfl); (case a => k_is); (case l => k_is); (case c => k_is); (case k => k_is)))
    (case d10 => (refine' QL.def_at KX G ?a ?l ?c ?k (fun _ _ _ _ _ _ us hl => match us, hl with | [_, _], _ => rfl); (case a => k_is); (case l => k_is); (case c => k_is); (case k => k_is)))
    (case d11 => (refine' QL.def_at KX G ?a ?l ?c ?k (fun _ _ _ _ _ _ us hl => match us, hl with | [_, _], _ => rfl); (case a => k_is); (case l => k_is); (case c => k_is); (case k => k_is)))
    (case d12 => (refine' QL.def_at KX G ?a ?l ?c ?k (fun _ _ _ _ _ _ us hl => match us, hl with | [_, _], _ => rfl); (case a => k_is); (case l => k_is); (case c => k_is); (case k => k_is)))
    (case d13 => (refine' QL.def_at KX G ?a ?l ?c ?k (fun _ _ _ _ _ _ us hl => match us, hl with | [_], _ => rfl); (case a => k_is); (case l => k_is); (case c => k_is); (case k => k_is)))
    (case d14 => (refine' QL.def_at KX G ?a ?l ?c ?k (fun _ _ _ _ _ _ us hl => match us, hl with | [_], _ => rfl); (case a => k_is); (case l => k_is); (case c => k_is); (case k => k_is)))
    (case d15 => (refine' QL.def_at KX G ?a ?l ?c ?k (fun _ _ _ _ _ _ us hl => match us, hl with | [_, _, _], _ => rfl); (case a => k_is); (case l => k_is); (case c => k_is); (case k => k_is)))
    (case d16 => (refine' QL.def_at KX G ?a ?l ?c ?k (fun _ _ _ _ _ _ us hl => match us, hl with | [_, _], _ => rfl); (case a => k_is); (case l => k_is); (case c => k_is); (case k => k_is)))
    (case d17 => (refine' QL.def_at KX G ?a ?l ?c ?k (fun _ _ _ _ _ _ us hl => match us, hl with | [_, _], _ => rfl); (case a => k_is); (case l => k_is); (case c => k_is); (case k => k_is)))
    (case d18 => (refine' QL.def_at KX G ?a ?l ?c ?k (fun _ _ _ _ _ _ us hl => match us, hl with | [_], _ => rfl); (case a => k_is); (case l => k_is); (case c => k_is); (case k => k_is)))
    (case d19 => (refine' QL.def_at KX G ?a ?l ?c ?k (fun _ _ _ _ _ _ us hl => match us, hl with | [_, _], _ => rfl); (case a => k_is); (case l => k_is); (case c => k_is); (case k => k_is)))
    (case d20 => (refine' QL.def_at KX G ?a ?l ?c ?k (fun _ _ _ _ _ _ us hl => match us, hl with | [_, _], _ => rfl); (case a => k_is); (case l => k_is); (case c => k_is); (case k => k_is)))
    (case d21 => (refine' QL.def_at KX G ?a ?l ?c ?k (fun _ _ _ _ _ _ us hl => match us, hl with | [_, _], _ => rfl); (case a => k_is); (case l => k_is); (case c => k_is); (case k => k_is)))
    (case d22 => (refine' QL.def_at KX G ?a ?l ?c ?k (fun _ _ _ _ _ _ us hl => match us, hl with | [_, _, _, _], _ => rfl); (case a => k_is); (case l => k_is); (case c => k_is); (case k => k_is)))
    (case d23 => (refine' QL.init_at KX G ?a ?fi ?fn ?mk ?kc ?l ?c ?k (fun _ _ _ _ _ _ us hl => match us, hl with | [_, _], _ => rfl); (case a => k_is); (case fi => k_is); (case fn => k_is); (case mk => k_is); (case kc => k_is); (case l => k_is); (case c => k_is); (case k => k_is)))
    (case d24 => (refine' QL.init_at KX G ?a ?fi ?fn ?mk ?kc ?l ?c ?k (fun _ _ _ _ _ _ us hl => match us, hl with | [_, _, _], _ => rfl); (case a => k_is); (case fi => k_is); (case fn => k_is); (case mk => k_is); (case kc => k_is); (case l => k_is); (case c => k_is); (case k => k_is)))
    (case d25 => (refine' QL.def_at KX G ?a ?l ?c ?k (fun _ _ _ _ _ _ us hl => match us, hl with | [_], _ => rfl); (case a => k_is); (case l => k_is); (case c => k_is); (case k => k_is)))
    (case d26 => (refine' QL.meth_at KX G ?a ?fi ?fn ?l ?c ?k (fun _ _ _ _ _ _ us hl => match us, hl with | [_, _], _ => rfl); (case a => k_is); (case fi => k_is); (case fn => k_is); (case l => k_is); (case c => k_is); (case k => k_is)))
    (case d27 => (refine' QL.meth_at KX G ?a ?fi ?fn ?l ?c ?k (fun _ _ _ _ _ _ us hl => match us, hl with | [_, _, _, _], _ => rfl); (case a => k_is); (case fi => k_is); (case fn => k_is); (case l => k_is); (case c => k_is); (case k => k_is)))
    (case d28 => (refine' QL.meth_at KX G ?a ?fi ?fn ?l ?c ?k (fun _ _ _ _ _ _ us hl => match us, hl with | [_, _, _], _ => rfl); (case a => k_is); (case fi => k_is); (case fn => k_is); (case l => k_is); (case c => k_is); (case k => k_is)))
    (case d29 => (refine' QL.meth_at KX G ?a ?fi ?fn ?l ?c ?k (fun _ _ _ _ _ _ us hl => match us, hl with | [_, _, _], _ => rfl); (case a => k_is); (case fi => k_is); (case fn => k_is); (case l => k_is); (case c => k_is); (case k => k_is)))
    (case d30 => (refine' QL.meth_at KX G ?a ?fi ?fn ?l ?c ?k (fun _ _ _ _ _ _ us hl => match us, hl with | [_], _ => rfl); (case a => k_is); (case fi => k_is); (case fn => k_is); (case l => k_is); (case c => k_is); (case k => k_is)))
    (case d31 => (refine' QL.meth_at KX G ?a ?fi ?fn ?l ?c ?k (fun _ _ _ _ _ _ us hl => match us, hl with | [_, _], _ => rfl); (case a => k_is); (case fi => k_is); (case fn => k_is); (case l => k_is); (case c => k_is); (case k => k_is)))
    (case d32 => (refine' QL.def_at KX G ?a ?l ?c ?k (fun _ _ _ _ _ _ us hl => match us, hl with | [_, _, _], _ => rfl); (case a => k_is); (case l => k_is); (case c => k_is); (case k => k_is)))
    (case d33 => (refine' QL.def_at KX G ?a ?l ?c ?k (fun _ _ _ _ _ _ us hl => match us, hl with | [_, _, _], _ => rfl); (case a => k_is); (case l => k_is); (case c => k_is); (case k => k_is)))
    (case d34 => (refine' QL.def_at KX G ?a ?l ?c ?k (fun _ _ _ _ _ _ us hl => match us, hl with | [_, _], _ => rfl); (case a => k_is); (case l => k_is); (case c => k_is); (case k => k_is)))
    (case d35 => (refine' QL.def_at KX G ?a ?l ?c ?k (fun _ _ _ _ _ _ us hl => match us, hl with | [_, _, _, _], _ => rfl); (case a => k_is); (case l => k_is); (case c => k_is); (case k => k_is)))
    (case d36 => (refine' QL.def_at KX G ?a ?l ?c ?k (fun _ _ _ _ _ _ us hl => match us, hl with | [_, _, _, _], _ => rfl); (case a => k_is); (case l => k_is); (case c => k_is); (case k => k_is)))
    (case d37 => (refine' QL.def_at KX G ?a ?l ?c ?k (fun _ _ _ _ _ _ us hl => match us, hl with | [_, _, _, _], _ => rfl); (case a => k_is); (case l => k_is); (case c => k_is); (case k => k_is)))
    (case d38 => (refine' QL.def_at KX G ?a ?l ?c ?k (fun _ _ _ _ _ _ us hl => match us, hl with | [_], _ => rfl); (case a => k_is); (case l => k_is); (case c => k_is); (case k => k_is)))
    (case b0 => (refine' QL.tab_is (st := K14.s_need_row) KX G ?a ?l ?lc ?v ?n; (case a => k_is); (case l => k_is); (case lc => k_is); (case v => exact rfl); (case n => first | exact rfl | with_unfolding_all rfl | (simp; done))))

