import PyProof.Rows.All
import Wide.All
import OpenK.AllK
import Wide.FinOn
import HandS.ForMost
import HandS.TupAny
import HandS.IsInst
import HandS.Conv
import HandS.Deep
import HandS.CallLocal
import HandS.Codes
import HandS.Wide
import HandS.Defaults
import HandS.Style
import HandS.Walk
import HandS.More
import KE.GoesEnum
import HandS.Iter
import PyProof.P3Statements
import PyProof.EqLayable
import KE.SortData
import KE.KDictPairs
import KE.KDictKeyed
import KE.KDictSum
import HandS.DictTup
import KE.KItemsList
import HandS.ListItems
import HandS.NoneIn
import HandS.SetKeys
import PyProof.DictMoreH
import KE.KStateDown
import HandS.Head2
import HandS.HeadEnd
import HandS.HeadHook4
import PySem.Challenge.RW_twicecalls_k70_whole_fair_ends
set_option Elab.async false
set_option linter.all false
set_option maxRecDepth 100000
set_option maxHeartbeats 4000000
/-! New tuples whose object is known, where one asks for that (b). -/
namespace TC
open PySem L2 PySem.Spec PyProof.Rows
def tagO (b : Bool) (o : Obj) (xs : List V) : HO := if b then .frz o (.tup xs) else .tup xs
section
variable {X : Cx} {pins : List (Addr × Obj)} {σ : L2.St} {H : Hp} {s : Shared}
theorem laidT (b : Bool) {its : List Value} {xs : List V} (I : Inv X pins σ H s) (r : Vals xs its) (hz : xs.length ≤ sizeLine) :
    Inv X pins σ (upd H s.heap.objs.size (tagO b { cls := .type "tuple", data := .seq its.toArray } xs)) { s with heap := s.heap.push { cls := .type "tuple", data := .seq its.toArray } } := by
  refine I.laid (t' := s.toks) (fun c u e => Heap.get?_push_of_some _ e) (Nat.le_refl _) ?_
  have t : ObjOk X.prog X.w (upd H s.heap.objs.size (tagO b { cls := .type "tuple", data := .seq its.toArray } xs)) (s.heap.push { cls := .type "tuple", data := .seq its.toArray }) s.heap.objs.size (.tup xs) := ⟨hz, its, r, IsTup.new _ _⟩
  cases b with
  | false => exact t
  | true => exact ⟨Heap.get?_push_size _ rfl, t⟩
def NewT (b : Bool) (xs : List V) (H : Hp) (Q : VK) : Prop := ∀ p o, o.dict = none → H p = none → Q (.ref p) (upd H p (tagO b o xs))
def tTupX (b : Bool) (t : TA) : TE := fun σ H Q => t σ H fun xs H1 => xs.length ≤ sizeLine ∧ NewT b xs H1 Q
theorem pe_tupX (b : Bool) {es : List Expr} {x1} {pos : Pos} {t : TA} (h : PA X es t) : PE X (.Tuple es x1 pos) (tTupX b t) := by
  refine ⟨fun pins s σ H Q I hq => ?_⟩
  refine wpAny_Tuple_spliced (thn (h.run pos pins s σ H _ I hq) fun us s1 ⟨xs, H1, I1, r, z, q⟩ => ⟨by rw [← r.length]; exact z, ?_⟩)
  exact ⟨.ref s1.heap.objs.size, _, laidT b I1 r z, rfl, q _ _ rfl (I1.hok.fresh (Nat.le_refl _))⟩
def rSlX (b : Bool) (K : PySem.W.Frag) : V → Option Int → Option Int → Hp → VK → Prop := fun x lo hi H Q => ∃ a xs, x = .ref a ∧ SqT K H a xs ∧
  (HT.sIx xs.length 0 lo = 0 ∧ HT.sIx xs.length xs.length hi = xs.length → Q (.ref a) H) ∧ (¬ (HT.sIx xs.length 0 lo = 0 ∧ HT.sIx xs.length xs.length hi = xs.length) → NewT b (cutV xs lo hi) H Q)
theorem sl_tupX (b : Bool) : SlR X (rSlX b X.K) := by
  intro pins s σ H x v vl vu lo hi sl Q I rx hs pl pu h
  obtain ⟨a, xs, rfl, hx, q1, q2⟩ := h
  by_cases hw : HT.sIx xs.length 0 lo = 0 ∧ HT.sIx xs.length xs.length hi = xs.length
  · exact sl_tupA pins s σ H _ v vl vu lo hi sl Q I rx hs pl pu ⟨a, xs, rfl, hx, q1, fun z => absurd hw z⟩
  · cases rx
    obtain ⟨its, r, ht, hz⟩ := I.tuple hx
    have hlen : its.toArray.size = xs.length := by rw [List.size_toArray]; exact r.length.symm
    refine ⟨"tuple", _, PyProof.Rows.slot_tuple_getitem.lookup, ht.typeIs, ?_⟩
    refine HT.getItem_tuple_cut ht hs pl pu (by rw [hlen]; exact hw) ?_ (by rw [hlen]; exact hz)
    rw [hlen]
    exact ⟨.ref s.heap.objs.size, _, laidT b I ((r.drop (HT.sIx xs.length 0 lo)).take (HT.sIx xs.length xs.length hi - HT.sIx xs.length 0 lo)) (Nat.le_trans (cutV_length xs lo hi) hz), rfl, q2 hw _ _ rfl (I.hok.fresh (Nat.le_refl _))⟩
def rCatX (b : Bool) (K : PySem.W.Frag) : R2 := fun x y H Q => ∃ a a' xs ys, x = .ref a ∧ y = .ref a' ∧ SqT K H a xs ∧ SqT K H a' ys ∧ xs.length + ys.length ≤ sizeLine ∧
  (xs = [] → Q (.ref a') H) ∧ (xs ≠ [] → ys = [] → Q (.ref a) H) ∧ (xs ≠ [] → ys ≠ [] → NewT b (xs ++ ys) H Q)
theorem op_catX (b : Bool) : OpR X (binaryOp .Add) (rCatX b X.K) := by
  intro pins s σ H x y v u Q I rx ry h
  obtain ⟨a, a', xs, ys, rfl, rfl, ha, hb, hz, q0, q1, q2⟩ := h
  by_cases hx : xs = []
  · exact op_catA pins s σ H _ _ v u Q I rx ry ⟨a, a', xs, ys, rfl, rfl, ha, hb, hz, q0, fun z => absurd hx z, fun z => absurd hx z⟩
  · by_cases hy : ys = []
    · exact op_catA pins s σ H _ _ v u Q I rx ry ⟨a, a', xs, ys, rfl, rfl, ha, hb, hz, q0, q1, fun _ z => absurd hy z⟩
    · cases rx
      cases ry
      obtain ⟨its, r1, p1, _⟩ := I.tuple ha
      obtain ⟨its2, r2, p2, _⟩ := I.tuple hb
      refine HT.cat_tup p1 p2 (fun z => hx (r1.nil_iff.mp z)) (fun z => absurd (r2.nil_iff.mp z) hy) (fun z => ?_) (by rw [← r1.length, ← r2.length]; exact hz)
      exact ⟨.ref s.heap.objs.size, _, laidT b I (r1.append r2) (by rw [List.length_append]; exact hz), rfl, q2 hx hy _ _ rfl (I.hok.fresh (Nat.le_refl _))⟩
def kTupX (b : Bool) (K : PySem.W.Frag) (x : V) (H : Hp) (Q : VK) : Prop := ∃ p xs, x = .ref p ∧ SqL K H p xs ∧ NewT b xs H Q
theorem rl_tupleX (b : Bool) (pins : List (Addr × Obj)) (s : Shared) (σ : L2.St) (H : Hp) (x : V) (v : Value) (Q : VK) (I : Inv X pins σ H s) (r : RelV x v) (h : kTupX b X.K x H Q) :
    wpAny (model X.prog X.w) X.A (call (.type "tuple") [v]) (EP X pins σ Q) X.xe s := by
  obtain ⟨p, xs, rfl, hs, q⟩ := h
  obtain rfl : v = .ref p := r
  obtain ⟨its, rv, pl, hz⟩ := I.list hs
  refine call_tuple_list pl.isList (fun h' hk => ?_) (by rw [List.size_toArray, ← rv.length]; exact hz)
  have I1 : Inv X pins σ H { s with heap := h' } := I.kept (t' := s.toks) hk
  exact ⟨.ref h'.objs.size, _, laidT b I1 rv hz, rfl, q _ _ rfl (I1.hok.fresh (Nat.le_refl _))⟩
theorem pe_tupleOfX (b : Bool) {a : Expr} {ta : TE} {p pos : Pos} (hg : Gl X "tuple") (hm : X.mg "tuple" = none) (ha : PE X a ta) (na : starEach [a] X.env = (false, eval a X.env) :: starEach [] X.env := by rfl) :
    PE X (.Call (.Name "tuple" p) [a] [] pos) (tThen ta (kTupX b X.K)) := by
  refine ⟨fun pins s σ H Q I h => ?_⟩
  exact Call_ (ld_blt I hg hm boot_tuple (PyProof.Rows.callWith_type1 (one_arg ha I h (fun v s2 x H2 I2 r q => rl_tupleX b pins s2 σ H2 x v Q I2 r q) na) na))
end
end TC
set_option Elab.async false
set_option linter.all false
set_option maxRecDepth 100000
set_option maxHeartbeats 4000000
/-! Data over the hand layer: what an expression is worth as data, by a table of what the slots hold. -/
namespace TC
open PySem L2

/-! ### data -/
/-- the items of a house's cells: pairs of a text and a number -/
def isCell : PyData → Bool
  | .tuple [.str _, .int _] => true
  | _ => false
def isCells (ds : List PyData) : Bool := ds.all isCell
/-- a tuple that stays for good; of cells the very object is known (what dict(t) wants) -/
def Stp (K : PySem.W.Frag) (H : Hp) (a : Addr) (xs : List V) (ds : List PyData) : Prop := (isCells ds = true → ∃ o, o.dict = none ∧ H a = some (.frz o (.tup xs))) ∧ (isCells ds = false → H a = some (.tup xs))
mutual
inductive DT (K : PySem.W.Frag) (H : Hp) : V → PyData → Prop
  | non : DT K H .non .none
  | bl (b : Bool) : DT K H (.bl b) (.bool b)
  | int (i : Int) : DT K H (.int i) (.int i)
  | str (x : Str) : DT K H (.str x) (.str x)
  | tup {a : Addr} {xs : List V} {ds : List PyData} : Stp K H a xs ds → DTs K H xs ds → DT K H (.ref a) (.tuple ds)
inductive DTs (K : PySem.W.Frag) (H : Hp) : List V → List PyData → Prop
  | nil : DTs K H [] []
  | cons {v : V} {vs : List V} {d : PyData} {ds : List PyData} : DT K H v d → DTs K H vs ds → DTs K H (v :: vs) (d :: ds)
end
/-- all that is there stays | all tuples stay -/
def Ex (H H' : Hp) : Prop := ∀ a o, H a = some o → H' a = some o
def Tk (H H' : Hp) : Prop := (∀ a xs, H a = some (.tup xs) → H' a = some (.tup xs)) ∧ ∀ a o xs, H a = some (.frz o (.tup xs)) → H' a = some (.frz o (.tup xs))
theorem Ex.rf (H : Hp) : Ex H H := fun _ _ h => h
theorem Ex.tr {H H1 H2 : Hp} (a : Ex H H1) (b : Ex H1 H2) : Ex H H2 := fun x o h => b x o (a x o h)
theorem Ex.te {H H' : Hp} (e : Ex H H') : Tk H H' := ⟨fun a xs h => e a _ h, fun a o xs h => e a _ h⟩
theorem Ex.up {H : Hp} {p : Addr} {o : HO} (h : H p = none) : Ex H (upd H p o) := fun a u e => by
  rw [upd_ne (ne_of_none e h)]; exact e
/-- a change at a place that the base does not know -/
theorem Ex.at_ {B H : Hp} {p : Addr} {o : HO} (e : Ex B H) (h : B p = none) : Ex B (upd H p o) := fun a u q => by
  rw [upd_ne (ne_of_none q h)]; exact e a u q
theorem Ex.back {H H' : Hp} {p : Addr} (e : Ex H H') (h : H' p = none) : H p = none := by
  cases q : H p with
  | none => rfl
  | some o => rw [e p o q] at h; cases h
theorem Tk.rf (H : Hp) : Tk H H := ⟨fun _ _ h => h, fun _ _ _ h => h⟩
theorem Tk.tr {H H1 H2 : Hp} (a : Tk H H1) (b : Tk H1 H2) : Tk H H2 := ⟨fun x o h => b.1 x o (a.1 x o h), fun x o u h => b.2 x o u (a.2 x o u h)⟩
theorem Tk.up {H : Hp} {p : Addr} {o : HO} (h : ∀ xs, H p ≠ some (.tup xs)) (h2 : ∀ o xs, H p ≠ some (.frz o (.tup xs))) : Tk H (upd H p o) :=
  ⟨fun a xs q => by rw [upd_ne (fun e => h xs (by rw [← e]; exact q))]; exact q, fun a u xs q => by rw [upd_ne (fun e => h2 u xs (by rw [← e]; exact q))]; exact q⟩
theorem Tk.upl {H : Hp} {p : Addr} {o : HO} {vs : List V} (hl : H p = some (.lst vs)) : Tk H (upd H p o) := Tk.up (fun xs z => by rw [hl] at z; cases z) fun u xs z => by rw [hl] at z; cases z
theorem Stp.te {K : PySem.W.Frag} {H H' : Hp} {a : Addr} {xs : List V} {ds : List PyData} (e : Tk H H') (h : Stp K H a xs ds) : Stp K H' a xs ds := ⟨fun q => let ⟨o, h1, h2⟩ := h.1 q; ⟨o, h1, e.2 _ _ _ h2⟩, fun q => e.1 _ _ (h.2 q)⟩
theorem Stp.sq {K : PySem.W.Frag} {H : Hp} {a : Addr} {xs : List V} {ds : List PyData} (h : Stp K H a xs ds) : SqT K H a xs := by
  cases q : isCells ds with
  | true => obtain ⟨o, _, h2⟩ := h.1 q; exact .inl (.inr ⟨o, h2⟩)
  | false => exact .inl (.inl (h.2 q))
/-- .. made anew -/
theorem Stp.new {K : PySem.W.Frag} {H : Hp} {p : Addr} {o : Obj} {xs : List V} {ds : List PyData} (ho : o.dict = none) : Stp K (upd H p (tagO (isCells ds) o xs)) p xs ds :=
  ⟨fun q => ⟨o, ho, by rw [q]; exact upd_same⟩, fun q => by rw [q]; exact upd_same⟩
section
variable {K : PySem.W.Frag} {H H' : Hp}
mutual
theorem DT.te (e : Tk H H') : ∀ {v : V} {d : PyData}, DT K H v d → DT K H' v d
  | _, _, .non => .non
  | _, _, .bl b => .bl b
  | _, _, .int i => .int i
  | _, _, .str x => .str x
  | _, _, .tup s r => .tup (s.te e) (DTs.te e r)
theorem DTs.te (e : Tk H H') : ∀ {vs : List V} {ds : List PyData}, DTs K H vs ds → DTs K H' vs ds
  | _, _, .nil => .nil
  | _, _, .cons h t => .cons (DT.te e h) (DTs.te e t)
end
mutual
theorem DT.dp : ∀ {v : V} {d : PyData}, DT K H v d → Dp K H v d
  | _, _, .non => .non
  | _, _, .bl b => .bl b
  | _, _, .int i => .int i
  | _, _, .str x => .str x
  | _, _, .tup s r => .tup s.sq (DTs.dp r)
theorem DTs.dp : ∀ {vs : List V} {ds : List PyData}, DTs K H vs ds → DpAll K H vs ds
  | _, _, .nil => .nil
  | _, _, .cons h t => .cons (DT.dp h) (DTs.dp t)
end
theorem DTs.len : ∀ {vs : List V} {ds : List PyData}, DTs K H vs ds → vs.length = ds.length
  | _, _, .nil => rfl
  | _, _, .cons _ t => congrArg Nat.succ (DTs.len t)
theorem DTs.at_ : ∀ {vs : List V} {ds : List PyData} {i : Nat} {d : PyData}, DTs K H vs ds → ds[i]? = some d → ∃ v, vs[i]? = some v ∧ DT K H v d
  | _, _, 0, _, .cons h _, e => by simp at e; subst e; exact ⟨_, rfl, h⟩
  | _, _, i + 1, d, .cons _ t, e => by
    obtain ⟨v, h1, h2⟩ := DTs.at_ (i := i) (d := d) t (by simpa using e)
    exact ⟨v, by simpa using h1, h2⟩
  | _, _, _, _, .nil, e => by simp at e
theorem DTs.app : ∀ {vs ws : List V} {ds es : List PyData}, DTs K H vs ds → DTs K H ws es → DTs K H (vs ++ ws) (ds ++ es)
  | _, _, _, _, .nil, r => r
  | _, _, _, _, .cons h t, r => .cons h (DTs.app t r)
theorem DTs.take : ∀ {vs : List V} {ds : List PyData} (n : Nat), DTs K H vs ds → DTs K H (vs.take n) (ds.take n)
  | _, _, 0, _ => .nil
  | _, _, _ + 1, .nil => .nil
  | _, _, n + 1, .cons h t => .cons h (DTs.take n t)
theorem DTs.drop : ∀ {vs : List V} {ds : List PyData} (n : Nat), DTs K H vs ds → DTs K H (vs.drop n) (ds.drop n)
  | _, _, 0, r => r
  | _, _, _ + 1, .nil => .nil
  | _, _, n + 1, .cons _ t => DTs.drop n t
theorem DTs.set {v : V} {d : PyData} (q : DT K H v d) : ∀ {vs : List V} {ds : List PyData} (i : Nat), DTs K H vs ds → DTs K H (vs.set i v) (ds.set i d)
  | _, _, _, .nil => .nil
  | _, _, 0, .cons _ t => .cons q t
  | _, _, i + 1, .cons h t => .cons h (DTs.set q i t)
theorem DTs.one {v : V} {d : PyData} (h : DT K H v d) : DTs K H [v] [d] := .cons h .nil
theorem DTs.bools : ∀ {vs : List V} (bs : List Bool), DTs K H vs (bs.map .bool) → vs = bs.map V.bl
  | _, [], .nil => rfl
  | _, b :: bs, .cons h t => by cases h; rw [DTs.bools bs t]; rfl
theorem DTs.ints : ∀ {vs : List V} (ns : List Int), DTs K H vs (ns.map .int) → vs = ns.map V.int
  | _, [], .nil => rfl
  | _, b :: bs, .cons h t => by cases h; rw [DTs.ints bs t]; rfl
theorem DT.of_int {v : V} {i : Int} (h : DT K H v (.int i)) : v = .int i := by cases h; rfl
theorem DT.of_bool {v : V} {i : Bool} (h : DT K H v (.bool i)) : v = .bl i := by cases h; rfl
theorem DT.of_str {v : V} {i : Str} (h : DT K H v (.str i)) : v = .str i := by cases h; rfl
theorem DT.of_non {v : V} (h : DT K H v .none) : v = .non := by cases h; rfl
theorem DT.of_tup {v : V} {ds : List PyData} (h : DT K H v (.tuple ds)) : ∃ a xs, v = .ref a ∧ Stp K H a xs ds ∧ DTs K H xs ds := by
  cases h with
  | tup s r => exact ⟨_, _, rfl, s, r⟩
end

/-! ### what the slots hold -/
/-- things of the heap that belong together: where they are, what they are -/
structure Wld where
  F : Addr → Prop
  ok : Hp → Prop
  dom : ∀ H a, ok H → F a → ∃ o, H a = some o
  stay : ∀ H H', ok H → (∀ a, F a → H' a = H a) → Tk H H' → ok H'
theorem Wld.ex {W : Wld} {H H' : Hp} (h : W.ok H) (e : Ex H H') : W.ok H' := W.stay H H' h (fun a f => by
  obtain ⟨o, q⟩ := W.dom H a h f
  rw [q, e _ _ q]) e.te
/-- not known | data | an own list of data | this very value | the way into a world of one's own | into one that is only read -/
inductive Sl where
  | no | d (x : PyData) | l (xs : List PyData) | r (v : V) | w (v : V) (W : Wld) | b (v : V) (W : Wld)
def SlOk (K : PySem.W.Frag) (H : Hp) (o : Option (Option V)) : Sl → Prop
  | .no => True
  | .d x => ∃ v, o = some (some v) ∧ DT K H v x
  | .l xs => ∃ a vs, o = some (some (.ref a)) ∧ H a = some (.lst vs) ∧ DTs K H vs xs
  | .r v => o = some (some v)
  | .w v W => o = some (some v) ∧ W.ok H
  | .b v W => o = some (some v) ∧ W.ok H
theorem SlOk.ex {K : PySem.W.Frag} {H H' : Hp} {o : Option (Option V)} (e : Ex H H') : ∀ {x : Sl}, SlOk K H o x → SlOk K H' o x
  | .no, _ => trivial
  | .d _, ⟨v, h, q⟩ => ⟨v, h, q.te e.te⟩
  | .l _, ⟨a, vs, h, p, q⟩ => ⟨a, vs, h, e _ _ p, q.te e.te⟩
  | .r _, h => h
  | .w _ _, ⟨h, q⟩ => ⟨h, Wld.ex q e⟩
  | .b _ _, ⟨h, q⟩ => ⟨h, Wld.ex q e⟩
structure Env (K : PySem.W.Frag) (H : Hp) (σ : L2.St) (ρ : List Sl) : Prop where
  len : ρ.length = σ.length
  sl : ∀ (i : Nat) (x : Sl), ρ[i]? = some x → SlOk K H σ[i]? x
section
variable {K : PySem.W.Frag} {H H' B : Hp} {σ : L2.St} {ρ : List Sl}
theorem Env.ex (h : Env K H σ ρ) (e : Ex H H') : Env K H' σ ρ := ⟨h.len, fun i x q => (h.sl i x q).ex e⟩
theorem Env.put {i : Nat} {v : V} {x : Sl} (h : Env K H σ ρ) (q : SlOk K H (some (some v)) x) : Env K H (σ.set i (some v)) (ρ.set i x) := by
  refine ⟨by simp [h.len], fun j y e => ?_⟩
  by_cases hj : i = j
  · subst hj
    by_cases hi : i < ρ.length
    · rw [List.getElem?_set_self hi] at e; cases e
      rw [List.getElem?_set_self (by rw [← h.len]; exact hi)]; exact q
    · rw [List.getElem?_eq_none (by simpa using hi)] at e; cases e
  · rw [List.getElem?_set_ne hj] at e ⊢; exact h.sl j y e
/-- the addresses of a slot's own things -/
def Ft (σ : L2.St) (i : Nat) : Sl → Addr → Prop
  | .l _, a => σ[i]? = some (some (.ref a))
  | .w _ W, a => W.F a
  | _, _ => False
/-- with what is not to be changed (B), and what others own (F) -/
structure EnvB (K : PySem.W.Frag) (B : Hp) (F : Addr → Prop) (H : Hp) (σ : L2.St) (ρ : List Sl) : Prop where
  env : Env K H σ ρ
  ex : Ex B H
  dom : ∀ a, F a → ∃ o, H a = some o
  own : ∀ (i : Nat) (x : Sl) (a : Addr), ρ[i]? = some x → Ft σ i x a → B a = none ∧ ¬ F a ∧ ∀ (j : Nat) (y : Sl), j ≠ i → ρ[j]? = some y → ¬ Ft σ j y a
  bor : ∀ (i : Nat) (v : V) (W : Wld) (a : Addr), ρ[i]? = some (.b v W) → W.F a → ∃ o, B a = some o
variable {F : Addr → Prop}
theorem EnvB.grow (h : EnvB K B F H σ ρ) (e : Ex H H') : EnvB K B F H' σ ρ :=
  ⟨h.env.ex e, h.ex.tr e, fun a f => let ⟨o, q⟩ := h.dom a f; ⟨o, e _ _ q⟩, h.own, h.bor⟩
end
/-- what an expression gave, from H to H' -/
def VOk (K : PySem.W.Frag) (H H' : Hp) (v : V) : Sl → Prop
  | .no => True
  | .d x => DT K H' v x
  | .l xs => ∃ p vs, v = .ref p ∧ H p = none ∧ H' p = some (.lst vs) ∧ DTs K H' vs xs
  | .r w => v = w
  | .w w W => v = w ∧ W.ok H' ∧ ∀ a, W.F a → H a = none
  | .b _ _ => False
theorem VOk.ex {K : PySem.W.Frag} {H H1 H2 H' : Hp} {v : V} (e0 : Ex H1 H) (e : Ex H' H2) : ∀ {x : Sl}, VOk K H H' v x → VOk K H1 H2 v x
  | .no, _ => trivial
  | .d _, h => h.te e.te
  | .l _, ⟨p, vs, h, q, r, s⟩ => ⟨p, vs, h, e0.back q, e _ _ r, s.te e.te⟩
  | .r _, h => h
  | .w _ _, ⟨h, q, r⟩ => ⟨h, Wld.ex q e, fun a f => e0.back (r a f)⟩
theorem VOk.slot {K : PySem.W.Frag} {H H' : Hp} {v : V} : ∀ {x : Sl}, VOk K H H' v x → SlOk K H' (some (some v)) x
  | .no, _ => trivial
  | .d _, h => ⟨v, rfl, h⟩
  | .l _, ⟨p, vs, h, _, r, s⟩ => ⟨p, vs, by rw [h], r, s⟩
  | .r _, h => congrArg (fun z => some (some z)) h
  | .w _ _, ⟨h, q, _⟩ => ⟨congrArg (fun z => some (some z)) h, q⟩
theorem Ft.there {K : PySem.W.Frag} {H : Hp} {σ : L2.St} {i : Nat} {a : Addr} : ∀ {x : Sl}, SlOk K H σ[i]? x → Ft σ i x a → ∃ o, H a = some o
  | .l _, ⟨b, vs, h3, h4, _⟩, h2 => by
    rw [show σ[i]? = some (some (.ref a)) from h2] at h3; cases h3; exact ⟨_, h4⟩
  | .w _ W, ⟨_, q⟩, h2 => W.dom H a q h2
theorem Ft.set_ne {σ : L2.St} {i j : Nat} {o : Option V} {a : Addr} (h : i ≠ j) : ∀ {x : Sl}, Ft (σ.set i o) j x a → Ft σ j x a
  | .l _, q => by
    have q : (σ.set i o)[j]? = some (some (.ref a)) := q
    rw [List.getElem?_set_ne h] at q; exact q
  | .w _ W, q => q
theorem VOk.new {K : PySem.W.Frag} {H H' : Hp} {v : V} {σ : L2.St} {i : Nat} {a : Addr} (hi : i < σ.length) : ∀ {x : Sl}, VOk K H H' v x → Ft (σ.set i (some v)) i x a → H a = none
  | .l _, ⟨p, vs, hp, hn, _⟩, f => by
    have f : (σ.set i (some v))[i]? = some (some (.ref a)) := f
    rw [List.getElem?_set_self hi, hp] at f; cases f; exact hn
  | .w _ W, ⟨_, _, q⟩, f => q a f
theorem EnvB.put {K : PySem.W.Frag} {B : Hp} {F : Addr → Prop} {H H' : Hp} {σ : L2.St} {ρ : List Sl} {i : Nat} {v : V} {x : Sl} (h : EnvB K B F H σ ρ) (e : Ex H H') (q : VOk K H H' v x) : EnvB K B F H' (σ.set i (some v)) (ρ.set i x) := by
  refine ⟨(h.env.ex e).put q.slot, h.ex.tr e, fun a f => let ⟨o, z⟩ := h.dom a f; ⟨o, e _ _ z⟩, ?_, fun j w W a e1 f => ?_⟩
  rotate_left
  · by_cases hj : i = j
    · subst hj
      by_cases hi : i < ρ.length
      · rw [List.getElem?_set_self hi] at e1; cases e1; exact q.elim
      · rw [List.getElem?_eq_none (by simpa using hi)] at e1; cases e1
    · rw [List.getElem?_set_ne hj] at e1
      exact h.bor j w W a e1 f
  -- an own thing among the old ones is there ahead
  have there : ∀ {j : Nat} {y : Sl} {a : Addr}, ρ[j]? = some y → Ft σ j y a → ∃ o, H a = some o := fun h1 h2 => Ft.there (h.env.sl _ _ h1) h2
  intro j y a h1 h2
  by_cases hj : i = j
  · subst hj
    by_cases hi : i < ρ.length
    · rw [List.getElem?_set_self hi] at h1; cases h1
      have hn := q.new (by rw [← h.env.len]; exact hi) h2
      refine ⟨h.ex.back hn, fun f => ?_, fun k ys hk h3 h4 => ?_⟩
      · obtain ⟨o, z⟩ := h.dom _ f
        rw [hn] at z; cases z
      · rw [List.getElem?_set_ne (Ne.symm hk)] at h3
        obtain ⟨o, z⟩ := there h3 (Ft.set_ne (Ne.symm hk) h4)
        rw [hn] at z; cases z
    · rw [List.getElem?_eq_none (by simpa using hi)] at h1; cases h1
  · rw [List.getElem?_set_ne hj] at h1
    have h2 := Ft.set_ne hj h2
    obtain ⟨a1, a2, a3⟩ := h.own j y a h1 h2
    refine ⟨a1, a2, fun k ys hk h3 h4 => ?_⟩
    by_cases hki : i = k
    · subst hki
      by_cases hi : i < ρ.length
      · rw [List.getElem?_set_self hi] at h3; cases h3
        have hn := q.new (by rw [← h.env.len]; exact hi) h4
        obtain ⟨o, z⟩ := there h1 h2
        rw [hn] at z; cases z
      · rw [List.getElem?_eq_none (by simpa using hi)] at h3; cases h3
    · rw [List.getElem?_set_ne hki] at h3
      exact a3 k ys hk h3 (Ft.set_ne hki h4)

/-! ### readings that say nothing of their own -/
structure wE (X : Cx) (e : Expr) (σ : L2.St) (H : Hp) (Q : VK) : Prop where
  it : ∀ pins s, Inv X pins σ H s → wpAny (model X.prog X.w) X.A (eval e X.env) (EP X pins σ Q) X.xe s
structure wT (X : Cx) (e : Expr) (σ : L2.St) (H : Hp) (Q : Bool → Hp → Prop) : Prop where
  it : ∀ pins s, Inv X pins σ H s → wpAny (model X.prog X.w) X.A (isTrue e X.env (eval e X.env)) (TP X pins σ Q) X.xe s
structure wW (X : Cx) (e : Expr) (σ : L2.St) (H : Hp) (Q : Bool → Hp → Prop) : Prop where
  it : ∀ (whole : Sem Value) pins s, Inv X pins σ H s → wpAny (model X.prog X.w) X.A (isTrue e X.env whole) (TP X pins σ Q) X.xe s
structure wA (X : Cx) (es : List Expr) (σ : L2.St) (H : Hp) (Q : List V → Hp → Prop) : Prop where
  it : ∀ pos pins s, Inv X pins σ H s → wpAny (model X.prog X.w) X.A (spliced (backTo pos (starEach es X.env))) (AP X pins σ Q) X.xe s
structure wG (X : Cx) (tg : Expr) (v : V) (σ : L2.St) (H : Hp) (Q : L2.St → Hp → Prop) : Prop where
  it : ∀ pins s u, Inv X pins σ H s → RelV v u → wpAny (model X.prog X.w) X.A (assign tg X.env u) (fun _ s' => ∃ σ' H', Inv X pins σ' H' s' ∧ Q σ' H') X.xe s
structure wS (X : Cx) (st : Stmt) (D : Ends) (σ : L2.St) (H : Hp) : Prop where
  it : ∀ pins s, Inv X pins σ H s → wpAny (model X.prog X.w) X.A (exec st X.env) (SP X pins D) X.xe s
structure wSs (X : Cx) (sts : List Stmt) (D : Ends) (σ : L2.St) (H : Hp) : Prop where
  it : ∀ pins s, Inv X pins σ H s → wpAny (model X.prog X.w) X.A (execs sts X.env) (SP X pins D) X.xe s
section
variable {X : Cx} {e : Expr} {es : List Expr} {st : Stmt} {sts : List Stmt} {σ : L2.St} {H : Hp}
theorem pe_w : PE X e (wE X e) := ⟨fun pins s σ H Q I h => h.it pins s I⟩
theorem pt_w : PT X e (wT X e) := ⟨fun pins s σ H Q I h => h.it pins s I⟩
theorem pw_w : PW X e (wW X e) := ⟨fun wh pins s σ H Q I h => h.it wh pins s I⟩
theorem pa_w : PA X es (wA X es) := ⟨fun pos pins s σ H Q I h => h.it pos pins s I⟩
theorem pg_w : PG X e (wG X e) := ⟨fun pins s σ H v u Q I r h => h.it pins s u I r⟩
theorem ps_w : PS X st (wS X st) := ⟨fun pins s σ H D I h => h.it pins s I⟩
theorem pss_w : PSs X sts (wSs X sts) := ⟨fun pins s σ H D I h => h.it pins s I⟩
theorem wE_of {t : TE} {Q : VK} (h : PE X e t) (q : t σ H Q) : wE X e σ H Q := ⟨fun pins s I => h.run pins s σ H Q I q⟩
theorem wT_of {t : TT} {Q : Bool → Hp → Prop} (h : PT X e t) (q : t σ H Q) : wT X e σ H Q := ⟨fun pins s I => h.run pins s σ H Q I q⟩
theorem wW_of {t : TT} {Q : Bool → Hp → Prop} (h : PW X e t) (q : t σ H Q) : wW X e σ H Q := ⟨fun wh pins s I => h.run wh pins s σ H Q I q⟩
theorem wA_of {t : TA} {Q : List V → Hp → Prop} (h : PA X es t) (q : t σ H Q) : wA X es σ H Q := ⟨fun pos pins s I => h.run pos pins s σ H Q I q⟩
theorem wG_of {t : TG} {v : V} {Q : L2.St → Hp → Prop} (h : PG X e t) (q : t v σ H Q) : wG X e v σ H Q := ⟨fun pins s u I r => h.run pins s σ H v u Q I r q⟩
theorem wS_of {t : TS} {D : Ends} (h : PS X st t) (q : t D σ H) : wS X st D σ H := ⟨fun pins s I => h.run pins s σ H D I q⟩
theorem wSs_of {t : TS} {D : Ends} (h : PSs X sts t) (q : t D σ H) : wSs X sts D σ H := ⟨fun pins s I => h.run pins s σ H D I q⟩
end

/-! ### an expression's worth -/
/-- e gives x, all that stands stays -/
def EV (X : Cx) (ρ : List Sl) (e : Expr) (x : Sl) : Prop := ∀ σ H, Env X.K H σ ρ → ∀ Q : VK, (∀ v H', Ex H H' → VOk X.K H H' v x → Q v H') → wE X e σ H Q
abbrev ED (X : Cx) (ρ : List Sl) (e : Expr) (d : PyData) : Prop := EV X ρ e (.d d)
/-- e gives a list of these, to be read -/
def ER (X : Cx) (ρ : List Sl) (e : Expr) (ds : List PyData) : Prop := ∀ σ H, Env X.K H σ ρ → ∀ Q : VK, (∀ p vs H', Ex H H' → H' p = some (.lst vs) → DTs X.K H' vs ds → Q (.ref p) H') → wE X e σ H Q
def TD (X : Cx) (ρ : List Sl) (e : Expr) (b : Bool) : Prop := ∀ σ H, Env X.K H σ ρ → ∀ Q : Bool → Hp → Prop, (∀ H', Ex H H' → Q b H') → wT X e σ H Q
def TW (X : Cx) (ρ : List Sl) (e : Expr) (b : Bool) : Prop := ∀ σ H, Env X.K H σ ρ → ∀ Q : Bool → Hp → Prop, (∀ H', Ex H H' → Q b H') → wW X e σ H Q
inductive VsOk (K : PySem.W.Frag) (H H' : Hp) : List V → List Sl → Prop
  | nil : VsOk K H H' [] []
  | cons {v : V} {vs : List V} {x : Sl} {xs : List Sl} : VOk K H H' v x → VsOk K H H' vs xs → VsOk K H H' (v :: vs) (x :: xs)
theorem VsOk.ex {K : PySem.W.Frag} {H H1 H2 H' : Hp} (e0 : Ex H1 H) (e : Ex H' H2) : ∀ {vs : List V} {xs : List Sl}, VsOk K H H' vs xs → VsOk K H1 H2 vs xs
  | _, _, .nil => .nil
  | _, _, .cons h t => .cons (h.ex e0 e) (VsOk.ex e0 e t)
theorem VsOk.dts {K : PySem.W.Frag} {H H' : Hp} : ∀ {vs : List V} {ds : List PyData}, VsOk K H H' vs (ds.map .d) → DTs K H' vs ds
  | _, [], .nil => .nil
  | _, _ :: _, .cons h t => .cons h (VsOk.dts t)
def AD (X : Cx) (ρ : List Sl) (es : List Expr) (xs : List Sl) : Prop := ∀ σ H, Env X.K H σ ρ → ∀ Q : List V → Hp → Prop, (∀ vs H', Ex H H' → VsOk X.K H H' vs xs → Q vs H') → wA X es σ H Q
section
variable {X : Cx} {ρ : List Sl} {a b c e : Expr} {es : List Expr} {pos : Pos}
theorem ad_nil : AD X ρ [] [] := fun σ H _ Q q => wA_of pa_nil (q [] H (Ex.rf H) .nil)
theorem ad_cons {x : Sl} {xs : List Sl} (h : EV X ρ e x) (t : AD X ρ es xs) (hs : starEach (e :: es) X.env = (false, eval e X.env) :: starEach es X.env := by rfl) : AD X ρ (e :: es) (x :: xs) := fun σ H ev Q q =>
  wA_of (pa_cons pe_w pa_w hs) (h σ H ev _ fun v H1 e1 o1 => t σ H1 (ev.ex e1) _ fun vs H2 e2 o2 => q (v :: vs) H2 (e1.tr e2) (.cons (o1.ex (Ex.rf H) e2) (o2.ex e1 (Ex.rf H2))))
theorem ad_nild : AD X ρ [] (([] : List PyData).map .d) := ad_nil
theorem ad_consd {x : PyData} {xs : List PyData} (h : ED X ρ e x) (t : AD X ρ es (xs.map .d)) (hs : starEach (e :: es) X.env = (false, eval e X.env) :: starEach es X.env := by rfl) : AD X ρ (e :: es) ((x :: xs).map .d) := ad_cons h t hs
/-! ### names, constants -/
theorem ed_var (i : Nat) {x : Str} {d : PyData} (h : ρ[i]? = some (.d d) := by rfl) (hN : X.N[i]? = some x := by rfl) (hv : Vis X.env.scope x := by first | exact Or.inl rfl | exact Or.inr (Or.inl rfl) | exact Or.inr (Or.inr rfl)) (hd : (x == ("__debug__" : Str)) = false := by decide)
    (hcd : (x == ("__classdict__" : Str)) = false := by decide) : ED X ρ (.Name x pos) d := fun σ H ev Q q => by
  obtain ⟨v, e1, e2⟩ := ev.sl i _ h
  exact wE_of (pe_var hN hv hd hcd) ⟨v, e1, q v H (Ex.rf H) e2⟩
theorem ev_raw (i : Nat) {x : Str} {v : V} (h : ρ[i]? = some (.r v) := by rfl) (hN : X.N[i]? = some x := by rfl) (hv : Vis X.env.scope x := by first | exact Or.inl rfl | exact Or.inr (Or.inl rfl) | exact Or.inr (Or.inr rfl)) (hd : (x == ("__debug__" : Str)) = false := by decide)
    (hcd : (x == ("__classdict__" : Str)) = false := by decide) : EV X ρ (.Name x pos) (.r v) := fun σ H ev Q q =>
  wE_of (pe_var hN hv hd hcd) ⟨v, ev.sl i _ h, q v H (Ex.rf H) rfl⟩
theorem er_var (i : Nat) {x : Str} {ds : List PyData} (h : ρ[i]? = some (.l ds) := by rfl) (hN : X.N[i]? = some x := by rfl) (hv : Vis X.env.scope x := by first | exact Or.inl rfl | exact Or.inr (Or.inl rfl) | exact Or.inr (Or.inr rfl)) (hd : (x == ("__debug__" : Str)) = false := by decide)
    (hcd : (x == ("__classdict__" : Str)) = false := by decide) : ER X ρ (.Name x pos) ds := fun σ H ev Q q => by
  obtain ⟨a, vs, e1, e2, e3⟩ := ev.sl i _ h
  exact wE_of (pe_var hN hv hd hcd) ⟨_, e1, q a vs H (Ex.rf H) e2 e3⟩
theorem er_new {ds : List PyData} (h : EV X ρ e (.l ds)) : ER X ρ e ds := fun σ H ev Q q => h σ H ev _ fun v H' e1 ⟨p, vs, e2, _, e3, e4⟩ => by
  subst e2; exact q p vs H' e1 e3 e4
theorem ed_glob {x : Str} {v : V} {u : Value} {d : PyData} (hg : Gl X x) (hm : X.mg x = some u) (r : RelV v u) (h : ∀ H, DT X.K H v d) (hd : (x == ("__debug__" : Str)) = false := by decide) : ED X ρ (.Name x pos) d := fun σ H ev Q q =>
  wE_of (pe_glob hg hm r hd) (q v H (Ex.rf H) (h H))
theorem ed_int {i : Int} {j} : ED X ρ (.Constant (.int i) j pos) (.int i) := fun σ H ev Q q => wE_of pe_int (q _ H (Ex.rf H) (.int i))
theorem ed_str {i : Str} {j} : ED X ρ (.Constant (.str i) j pos) (.str i) := fun σ H ev Q q => wE_of pe_str (q _ H (Ex.rf H) (.str i))
theorem ed_non {j} : ED X ρ (.Constant .none j pos) .none := fun σ H ev Q q => wE_of pe_non (q _ H (Ex.rf H) .non)
theorem ed_bl {i : Bool} {j} : ED X ρ (.Constant (.bool i) j pos) (.bool i) := fun σ H ev Q q => wE_of pe_bl (q _ H (Ex.rf H) (.bl i))
/-! ### tuples, lists -/
theorem ed_tup {k} {ds : List PyData} (h : AD X ρ es (ds.map .d)) (hz : ds.length ≤ sizeLine := by simp only [List.length_cons, List.length_nil]; decide) : ED X ρ (.Tuple es k pos) (.tuple ds) := fun σ H ev Q q =>
  wE_of (pe_tupX (isCells ds) pa_w) (h σ H ev _ fun vs H1 e1 o1 => ⟨by rw [o1.dts.len]; exact hz, fun p o ho hp => q (.ref p) _ (e1.tr (Ex.up hp)) (.tup (Stp.new ho) (o1.dts.te (Ex.up hp).te))⟩)
theorem ev_lst {ds : List PyData} (h : AD X ρ es (ds.map .d)) (hz : ds.length ≤ sizeLine := by simp only [List.length_cons, List.length_nil]; decide) : EV X ρ (.List es pos) (.l ds) := fun σ H ev Q q =>
  wE_of (pe_lst pa_w) (h σ H ev _ fun vs H1 e1 o1 => ⟨by rw [o1.dts.len]; exact hz, fun p hp => q (.ref p) _ (e1.tr (Ex.up hp)) ⟨p, vs, rfl, e1.back hp, upd_same, o1.dts.te (Ex.up hp).te⟩⟩)
/-- place i, from behind below 0 -/
def atD (ds : List PyData) (i : Int) : Option PyData := atI ds i
theorem dts_at {K : PySem.W.Frag} {H : Hp} {vs : List V} {ds : List PyData} {i : Int} {d : PyData} (h : DTs K H vs ds) (e : atD ds i = some d) : ∃ v, atI vs i = some v ∧ DT K H v d := by
  unfold atD atI at e
  rw [← h.len] at e
  cases q : ixN vs.length i with
  | none => rw [q] at e; cases e
  | some j =>
    rw [q] at e
    obtain ⟨v, h1, h2⟩ := h.at_ (i := j) e
    exact ⟨v, by unfold atI; rw [q]; exact h1, h2⟩
theorem atD_nat {ds : List PyData} {n : Nat} {d : PyData} (h : ds[n]? = some d) : atD ds (n : Int) = some d := by
  have hl := (List.getElem?_eq_some_iff.mp h).1
  unfold atD atI ixN
  rw [if_pos (by omega), if_pos (by omega)]
  exact h
theorem ed_ix {ds : List PyData} {i : Int} {d : PyData} (ha : ED X ρ a (.tuple ds)) (hb : ED X ρ b (.int i)) (h : atD ds i = some d) (hs : PlainIx b := by exact fun _ _ => rfl) : ED X ρ (.Subscript a b pos) d := fun σ H ev Q q =>
  wE_of (pe_ix ix_tup pe_w pe_w hs) (ha σ H ev _ fun v H1 e1 o1 => hb σ H1 (ev.ex e1) _ fun w H2 e2 o2 => by
    obtain ⟨p, xs, rfl, s, r⟩ := (show DT X.K H1 v (.tuple ds) from o1).of_tup
    obtain ⟨x, h1, h2⟩ := dts_at (r.te e2.te) h
    exact ⟨p, xs, i, x, rfl, (show DT X.K H2 w (.int i) from o2).of_int, (s.te e2.te).sq, h1, q x H2 (e1.tr e2) h2⟩)
theorem ed_ixL {ds : List PyData} {i : Int} {d : PyData} (ha : ER X ρ a ds) (hb : ED X ρ b (.int i)) (h : atD ds i = some d) (hs : PlainIx b := by exact fun _ _ => rfl) : ED X ρ (.Subscript a b pos) d := fun σ H ev Q q =>
  wE_of (pe_ix ix_list pe_w pe_w hs) (ha σ H ev _ fun p vs H1 e1 o1 r => hb σ H1 (ev.ex e1) _ fun w H2 e2 o2 => by
    obtain ⟨x, h1, h2⟩ := dts_at (r.te e2.te) h
    exact ⟨p, vs, i, x, rfl, (show DT X.K H2 w (.int i) from o2).of_int, .of (e2 _ _ o1), h1, q x H2 (e1.tr e2) h2⟩)
/-- one end of a slice -/
def OD (X : Cx) (ρ : List Sl) (o : Option Expr) (r : Option Int) : Prop := match o, r with
  | none, none => True
  | some e, some i => ED X ρ e (.int i)
  | _, _ => False
theorem od_run {o : Option Expr} {r : Option Int} (h : OD X ρ o r) : ∃ t : TO, PO X o t ∧ ∀ σ H, Env X.K H σ ρ → ∀ Q : Option Int → Hp → Prop, (∀ H', Ex H H' → Q r H') → t σ H Q := by
  cases o with
  | none => cases r with
    | none => exact ⟨_, po_none, fun σ H ev Q q => q H (Ex.rf H)⟩
    | some i => exact h.elim
  | some e => cases r with
    | none => exact h.elim
    | some i => exact ⟨_, po_some pe_w, fun σ H ev Q q => (show ED X ρ e (.int i) from h) σ H ev _ fun v H' e1 o1 => ⟨i, (show DT X.K H' v (.int i) from o1).of_int, q H' e1⟩⟩
def cutD (ds : List PyData) (lo hi : Option Int) : List PyData := (ds.drop (HT.sIx ds.length 0 lo)).take (HT.sIx ds.length ds.length hi - HT.sIx ds.length 0 lo)
theorem dts_cut {K : PySem.W.Frag} {H : Hp} {vs : List V} {ds : List PyData} (h : DTs K H vs ds) (lo hi : Option Int) : DTs K H (cutV vs lo hi) (cutD ds lo hi) := by
  unfold cutV cutD
  rw [h.len]
  exact (h.drop _).take _
theorem cut_whole {ds : List PyData} {lo hi : Option Int} (h : HT.sIx ds.length 0 lo = 0 ∧ HT.sIx ds.length ds.length hi = ds.length) : cutD ds lo hi = ds := by
  unfold cutD
  rw [h.1, h.2]
  simp
theorem ed_sl {ds : List PyData} {lo hi : Option Expr} {l u : Option Int} {p2 : Pos} (ha : ED X ρ a (.tuple ds)) (hl : OD X ρ lo l) (hu : OD X ρ hi u) : ED X ρ (.Subscript a (.Slice lo hi none p2) pos) (.tuple (cutD ds l u)) := fun σ H ev Q q => by
  obtain ⟨tl, pl, rl⟩ := od_run hl
  obtain ⟨tu, pu, ru⟩ := od_run hu
  refine wE_of (pe_slice (sl_tupX (isCells (cutD ds l u))) pe_w pl pu) (ha σ H ev _ fun v H1 e1 o1 => rl σ H1 (ev.ex e1) _ fun H2 e2 => ru σ H2 (ev.ex (e1.tr e2)) _ fun H3 e3 => ?_)
  obtain ⟨p, xs, rfl, s, r⟩ := (show DT X.K H1 v (.tuple ds) from o1).of_tup
  have s3 := s.te (e2.tr e3).te
  have r3 := r.te (e2.tr e3).te
  refine ⟨p, xs, rfl, s3.sq, fun hw => ?_, fun _ t o ho ht => ?_⟩
  · rw [r.len] at hw
    refine q _ H3 (e1.tr (e2.tr e3)) ?_
    rw [cut_whole hw]
    exact .tup s3 r3
  · exact q _ _ ((e1.tr (e2.tr e3)).tr (Ex.up ht)) (.tup (Stp.new ho) ((dts_cut r3 l u).te (Ex.up ht).te))
theorem ed_cat {xs ys : List PyData} (ha : ED X ρ a (.tuple xs)) (hb : ED X ρ b (.tuple ys)) (hz : xs.length + ys.length ≤ sizeLine) : ED X ρ (.BinOp a .Add b pos) (.tuple (xs ++ ys)) := fun σ H ev Q q =>
  wE_of (pe_op (op_catX (isCells (xs ++ ys))) pe_w pe_w) (ha σ H ev _ fun v H1 e1 o1 => hb σ H1 (ev.ex e1) _ fun w H2 e2 o2 => by
    obtain ⟨p, us, rfl, s, r⟩ := (show DT X.K H1 v (.tuple xs) from o1).of_tup
    obtain ⟨p', ws, rfl, s', r'⟩ := (show DT X.K H2 w (.tuple ys) from o2).of_tup
    have s2 := s.te e2.te
    have r2 := r.te e2.te
    refine ⟨p, p', us, ws, rfl, rfl, s2.sq, s'.sq, by rw [r.len, r'.len]; exact hz, fun h => ?_, fun _ h => ?_, fun _ _ t o ho ht => ?_⟩
    · subst h
      cases r2
      exact q _ H2 (e1.tr e2) (.tup s' r')
    · subst h
      cases r'
      rw [List.append_nil] at q
      exact q _ H2 (e1.tr e2) (.tup s2 r2)
    · exact q _ _ ((e1.tr e2).tr (Ex.up ht)) (.tup (Stp.new ho) ((r2.app r').te (Ex.up ht).te)))
/-! ### ints -/
theorem ed_opI {op : Operator} {C : Int → Int → Prop} {g : Int → Int → Int} (ho : OpR X (binaryOp op) (rI C fun i j => .int (g i j))) {i j : Int} (ha : ED X ρ a (.int i)) (hb : ED X ρ b (.int j)) (hc : C i j) : ED X ρ (.BinOp a op b pos) (.int (g i j)) := fun σ H ev Q q =>
  wE_of (pe_op ho pe_w pe_w) (ha σ H ev _ fun v H1 e1 o1 => hb σ H1 (ev.ex e1) _ fun w H2 e2 o2 =>
    ⟨i, j, (show DT X.K H1 v (.int i) from o1).of_int, (show DT X.K H2 w (.int j) from o2).of_int, hc, q _ H2 (e1.tr e2) (.int _)⟩)
theorem ed_opI0 {op : Operator} {g : Int → Int → Int} (ho : OpR X (binaryOp op) (rI0 fun i j => .int (g i j))) {i j : Int} (ha : ED X ρ a (.int i)) (hb : ED X ρ b (.int j)) : ED X ρ (.BinOp a op b pos) (.int (g i j)) := fun σ H ev Q q =>
  wE_of (pe_op ho pe_w pe_w) (ha σ H ev _ fun v H1 e1 o1 => hb σ H1 (ev.ex e1) _ fun w H2 e2 o2 =>
    ⟨i, j, (show DT X.K H1 v (.int i) from o1).of_int, (show DT X.K H2 w (.int j) from o2).of_int, q _ H2 (e1.tr e2) (.int _)⟩)
theorem ed_add {i j : Int} (ha : ED X ρ a (.int i)) (hb : ED X ρ b (.int j)) : ED X ρ (.BinOp a .Add b pos) (.int (i + j)) := ed_opI0 op_add ha hb
theorem ed_sub {i j : Int} (ha : ED X ρ a (.int i)) (hb : ED X ρ b (.int j)) : ED X ρ (.BinOp a .Sub b pos) (.int (i - j)) := ed_opI0 op_sub ha hb
theorem ed_mul {i j : Int} (ha : ED X ρ a (.int i)) (hb : ED X ρ b (.int j)) (hc : CMul i j) : ED X ρ (.BinOp a .Mult b pos) (.int (i * j)) := ed_opI op_mul ha hb hc
theorem ed_mod {i j : Int} (ha : ED X ρ a (.int i)) (hb : ED X ρ b (.int j)) (hc : 0 < j) : ED X ρ (.BinOp a .Mod b pos) (.int (i % j)) := ed_opI (C := fun _ j => 0 < j) op_mod ha hb hc
theorem ed_fdiv {i j : Int} (ha : ED X ρ a (.int i)) (hb : ED X ρ b (.int j)) (hc : CDiv i j) : ED X ρ (.BinOp a .FloorDiv b pos) (.int (i / j)) := ed_opI op_fdiv ha hb hc
/-! ### comparisons -/
theorem ed_cmp {op : CmpOp} {r : R2} {x y : PyData} {k : Bool} (ho : OpR X (compareOp op) r) (ha : ED X ρ a x) (hb : ED X ρ b y) (hr : ∀ v w H (Q : VK), DT X.K H v x → DT X.K H w y → Q (.bl k) H → r v w H Q) (hm : behindInMarks op b = false) : ED X ρ (.Compare a [op] [b] pos) (.bool k) := fun σ H ev Q q =>
  wE_of (pe_cmpR ho pe_w pe_w hm) (ha σ H ev _ fun v H1 e1 o1 => hb σ H1 (ev.ex e1) _ fun w H2 e2 o2 => hr v w H2 Q ((show DT X.K H1 v x from o1).te e2.te) o2 (q _ H2 (e1.tr e2) (.bl k)))
theorem td_val {k : Bool} (h : ED X ρ e (.bool k)) (he : ∀ whole, isTrue e X.env whole = (do let v ← whole; standAt e.pos; holding [v] (truthy v)) := by intro _; rfl) : TD X ρ e k := fun σ H ev Q q =>
  wT_of (pt_val pe_w he) (h σ H ev _ fun v H' e1 o1 => ⟨k, (show DT X.K H' v (.bool k) from o1).of_bool, q H' e1⟩)
theorem td_cmp {op : CmpOp} {r : R2} {x y : PyData} {k : Bool} (ho : OpR X (compareOp op) r) (ha : ED X ρ a x) (hb : ED X ρ b y) (hr : ∀ v w H (Q : VK), DT X.K H v x → DT X.K H w y → Q (.bl k) H → r v w H Q) (hm : behindInMarks op b = false) : TD X ρ (.Compare a [op] [b] pos) k := fun σ H ev Q q =>
  wT_of (pt_cmpR ho pe_w pe_w hm) (ha σ H ev _ fun v H1 e1 o1 => hb σ H1 (ev.ex e1) _ fun w H2 e2 o2 => hr v w H2 _ ((show DT X.K H1 v x from o1).te e2.te) o2 ⟨k, rfl, q H2 (e1.tr e2)⟩)
theorem rI0_ok {K : PySem.W.Frag} {g : Int → Int → Bool} {i j : Int} : ∀ v w H (Q : VK), DT K H v (.int i) → DT K H w (.int j) → Q (.bl (g i j)) H → rI0 (fun i j => .bl (g i j)) v w H Q := fun v w H Q h1 h2 q => ⟨i, j, h1.of_int, h2.of_int, q⟩
theorem rEq_ok {K : PySem.W.Frag} {i j : Int} : ∀ v w H (Q : VK), DT K H v (.int i) → DT K H w (.int j) → Q (.bl (decide (i = j))) H → rEq v w H Q := fun v w H Q h1 h2 q => by
  cases h1; cases h2
  refine ⟨rfl, ?_⟩
  rw [show decide (V.int i = V.int j) = decide (i = j) from by by_cases h : i = j <;> simp [h]]
  exact q
theorem rNe_ok {K : PySem.W.Frag} {i j : Int} : ∀ v w H (Q : VK), DT K H v (.int i) → DT K H w (.int j) → Q (.bl (!decide (i = j))) H → rNe v w H Q := fun v w H Q h1 h2 q => by
  cases h1; cases h2
  refine ⟨rfl, ?_⟩
  rw [show decide (V.int i = V.int j) = decide (i = j) from by by_cases h : i = j <;> simp [h]]
  exact q
theorem rEqS_ok {K : PySem.W.Frag} {i j : Str} : ∀ v w H (Q : VK), DT K H v (.str i) → DT K H w (.str j) → Q (.bl (decide (i = j))) H → rEq v w H Q := fun v w H Q h1 h2 q => by
  cases h1; cases h2
  refine ⟨rfl, ?_⟩
  rw [show decide (V.str i = V.str j) = decide (i = j) from by by_cases h : i = j <;> simp [h]]
  exact q
theorem rNeS_ok {K : PySem.W.Frag} {i j : Str} : ∀ v w H (Q : VK), DT K H v (.str i) → DT K H w (.str j) → Q (.bl (!decide (i = j))) H → rNe v w H Q := fun v w H Q h1 h2 q => by
  cases h1; cases h2
  refine ⟨rfl, ?_⟩
  rw [show decide (V.str i = V.str j) = decide (i = j) from by by_cases h : i = j <;> simp [h]]
  exact q
/-- == of data of any depth -/
theorem rEqD_ok {K : PySem.W.Frag} {x y : PyData} (hx : SeqAt.shaped x = true) (hy : SeqAt.shaped y = true) : ∀ v w H (Q : VK), DT K H v x → DT K H w y → Q (.bl (PyData.eqv x y)) H → rEqD K v w H Q := fun v w H Q h1 h2 q => ⟨x, y, h1.dp, h2.dp, hx, hy, q⟩
theorem rNeD_ok {K : PySem.W.Frag} {x y : PyData} (hx : SeqAt.shaped x = true) (hy : SeqAt.shaped y = true) : ∀ v w H (Q : VK), DT K H v x → DT K H w y → Q (.bl (!PyData.eqv x y)) H → rNeD K v w H Q := fun v w H Q h1 h2 q => ⟨x, y, h1.dp, h2.dp, hx, hy, q⟩
def isNo : PyData → Bool
  | .none => true
  | _ => false
theorem DT.isNo_ {K : PySem.W.Frag} {H : Hp} {v : V} {x : PyData} (h : DT K H v x) : decide (v = .non) = isNo x := by cases h <;> rfl
theorem ed_isN {x : PyData} {j pos'} (ha : ED X ρ a x) : ED X ρ (.Compare a [.Is] [.Constant .none j pos'] pos) (.bool (isNo x)) := fun σ H ev Q q =>
  wE_of (pe_cmp (pc_isN pe_w)) (ha σ H ev _ fun v H1 e1 o1 => q _ H1 e1 (by rw [(show DT X.K H1 v x from o1).isNo_]; exact .bl _))
theorem ed_notN {x : PyData} {j pos'} (ha : ED X ρ a x) : ED X ρ (.Compare a [.IsNot] [.Constant .none j pos'] pos) (.bool (!isNo x)) := fun σ H ev Q q =>
  wE_of (pe_cmp (pc_notN pe_w)) (ha σ H ev _ fun v H1 e1 o1 => q _ H1 e1 (by rw [(show DT X.K H1 v x from o1).isNo_]; exact .bl _))
theorem td_isN {x : PyData} {j pos'} (ha : ED X ρ a x) : TD X ρ (.Compare a [.Is] [.Constant .none j pos'] pos) (isNo x) := fun σ H ev Q q =>
  wT_of (pt_cmp (pc_isN pe_w)) (ha σ H ev _ fun v H1 e1 o1 => ⟨_, by rw [(show DT X.K H1 v x from o1).isNo_], q H1 e1⟩)
theorem td_notN {x : PyData} {j pos'} (ha : ED X ρ a x) : TD X ρ (.Compare a [.IsNot] [.Constant .none j pos'] pos) (!isNo x) := fun σ H ev Q q =>
  wT_of (pt_cmp (pc_notN pe_w)) (ha σ H ev _ fun v H1 e1 o1 => ⟨_, by rw [(show DT X.K H1 v x from o1).isNo_], q H1 e1⟩)
/-! ### and, or, not, if -/
theorem TW.td {k : Bool} (h : TW X ρ e k) : TD X ρ e k := fun σ H ev Q q => wT_of (pw_w).pt (h σ H ev Q q)
theorem tw_and1 {k : Bool} (h : TD X ρ a k) : TW X ρ (.BoolOp .And [a] pos) k := fun σ H ev Q q => wW_of (pw_and1 pt_w) (h σ H ev Q q)
theorem tw_or1 {k : Bool} (h : TD X ρ a k) : TW X ρ (.BoolOp .Or [a] pos) k := fun σ H ev Q q => wW_of (pw_or1 pt_w) (h σ H ev Q q)
theorem tw_and {k m : Bool} (h : TD X ρ a k) (t : k = true → TW X ρ (.BoolOp .And (b :: es) pos) m) : TW X ρ (.BoolOp .And (a :: b :: es) pos) (k && m) := fun σ H ev Q q =>
  wW_of (pw_and pt_w pw_w) (h σ H ev _ fun H1 e1 => by
    cases k with
    | true => exact t rfl σ H1 (ev.ex e1) Q fun H2 e2 => q H2 (e1.tr e2)
    | false => exact q H1 e1)
theorem tw_or {k m : Bool} (h : TD X ρ a k) (t : k = false → TW X ρ (.BoolOp .Or (b :: es) pos) m) : TW X ρ (.BoolOp .Or (a :: b :: es) pos) (k || m) := fun σ H ev Q q =>
  wW_of (pw_or pt_w pw_w) (h σ H ev _ fun H1 e1 => by
    cases k with
    | true => exact q H1 e1
    | false => exact t rfl σ H1 (ev.ex e1) Q fun H2 e2 => q H2 (e1.tr e2))
theorem td_not {k : Bool} (h : TD X ρ a k) : TD X ρ (.UnaryOp .Not a pos) (!k) := fun σ H ev Q q => wT_of (pt_not pt_w) (h σ H ev _ fun H1 e1 => q H1 e1)
theorem ed_one {op} {x : PyData} (h : ED X ρ a x) : ED X ρ (.BoolOp op [a] pos) x := fun σ H ev Q q => wE_of (pe_one pe_w) (h σ H ev Q q)
theorem ed_and {k : Bool} {m : PyData} (h : ED X ρ a (.bool k)) (t : k = true → ED X ρ (.BoolOp .And (b :: es) pos) m) (hm : k = false → m = .bool false) : ED X ρ (.BoolOp .And (a :: b :: es) pos) m := fun σ H ev Q q =>
  wE_of (pe_and pe_w pe_w) (h σ H ev _ fun v H1 e1 o1 => ⟨k, (show DT X.K H1 v (.bool k) from o1).of_bool, by
    cases k with
    | true => exact t rfl σ H1 (ev.ex e1) Q fun w H2 e2 o2 => q w H2 (e1.tr e2) o2
    | false => rw [hm rfl] at q; exact q _ H1 e1 (.bl false)⟩)
theorem ed_andB {k m : Bool} (h : ED X ρ a (.bool k)) (t : k = true → ED X ρ (.BoolOp .And (b :: es) pos) (.bool m)) : ED X ρ (.BoolOp .And (a :: b :: es) pos) (.bool (k && m)) := by
  cases k with
  | true => exact ed_and h (fun _ => t rfl) (fun z => nomatch z)
  | false => exact ed_and h (fun z => nomatch z) (fun _ => rfl)
theorem ed_orB {k m : Bool} (h : ED X ρ a (.bool k)) (t : k = false → ED X ρ (.BoolOp .Or (b :: es) pos) (.bool m)) : ED X ρ (.BoolOp .Or (a :: b :: es) pos) (.bool (k || m)) := fun σ H ev Q q =>
  wE_of (pe_or pe_w pe_w) (h σ H ev _ fun v H1 e1 o1 => ⟨k, (show DT X.K H1 v (.bool k) from o1).of_bool, by
    cases k with
    | true => exact q _ H1 e1 (.bl true)
    | false => exact t rfl σ H1 (ev.ex e1) Q fun w H2 e2 o2 => q w H2 (e1.tr e2) o2⟩)
theorem ed_not {k : Bool} (h : ED X ρ a (.bool k)) : ED X ρ (.UnaryOp .Not a pos) (.bool (!k)) := fun σ H ev Q q =>
  wE_of (pe_not pe_w) (h σ H ev _ fun v H1 e1 o1 => ⟨k, (show DT X.K H1 v (.bool k) from o1).of_bool, q _ H1 e1 (.bl _)⟩)
theorem ev_if {k : Bool} {x : Sl} (h : TD X ρ c k) (h1 : k = true → EV X ρ a x) (h2 : k = false → EV X ρ b x) : EV X ρ (.IfExp c a b pos) x := fun σ H ev Q q =>
  wE_of (pe_ifExp pt_w pe_w pe_w) (h σ H ev _ fun H1 e1 => by
    cases k with
    | true => exact h1 rfl σ H1 (ev.ex e1) Q fun w H2 e2 o2 => q w H2 (e1.tr e2) (o2.ex e1 (Ex.rf H2))
    | false => exact h2 rfl σ H1 (ev.ex e1) Q fun w H2 e2 o2 => q w H2 (e1.tr e2) (o2.ex e1 (Ex.rf H2)))
theorem td_is {k m : Bool} (h : TD X ρ e k) (q : k = m) : TD X ρ e m := q ▸ h
theorem ed_is {x y : PyData} (h : ED X ρ e x) (q : x = y) : ED X ρ e y := q ▸ h
end
end TC
set_option Elab.async false
set_option linter.all false
set_option maxRecDepth 100000
set_option maxHeartbeats 4000000
/-! enumerate(t), t a tuple, one argument: what a for walks. -/
namespace TC
open PySem L2
theorem enum_new_tup (tp : Addr) (its : Array Value) :
    Meets (Builtin.«enumerate.__new__» ⟨[.type "enumerate", .ref tp], []⟩) (fun _ R st => st.heap.IsTuple tp its ∧
      R (.ok (.ret (.ref (st.heap.push { cls := .type "tuple_iterator", data := .fields #[.ref tp, .int 0 0] }).objs.size)))
        { st with heap := (st.heap.push { cls := .type "tuple_iterator", data := .fields #[.ref tp, .int 0 0] }).push { cls := .type "enumerate", data := .fields #[.none, .bool false, .ref st.heap.objs.size, rawInt 0, .none, .none] } }) :=
  .of_wp fun P W A R st h => by
    obtain ⟨hp, gs, dr, tk, oo⟩ := st
    obtain ⟨ht, h⟩ := h
    have subE := sub_enumerate
    have go : ∀ {A1 : Around} {E1 : Value → Shared → Prop} {Q1 : Value → Shared → Prop}, Q1 (.ref hp.objs.size) ⟨hp.push { cls := .type "tuple_iterator", data := .fields #[.ref tp, .int 0 0] }, gs, dr, tk, oo⟩ → wpAny (model P W) A1 (pyIter (.ref tp)) Q1 E1 ⟨hp, gs, dr, tk, oo⟩ :=
      fun q => wpAny_pyIter_tuple (show Heap.IsTuple (Shared.heap ⟨hp, gs, dr, tk, oo⟩) tp its from ht) q
    wp_walk using go
    refine wpAny_stack_any fun sk => wpAny_pure ?_
    split
    · rename_i cc _ _ _ _ _
      cases (cc == Value.type "enumerate") <;> (wp_walk using go; exact ⟨_, rfl, h⟩)
    · wp_walk using go
      exact ⟨_, rfl, h⟩
theorem enum_call_tup {prog : Program} {w : World} {A : Around} {E : Value → Shared → Prop} {s : Shared} {tp : Addr} {its : Array Value} {Q : Value → Shared → Prop} (ht : s.heap.IsTuple tp its)
    (h : ∀ h2, IsEnum h2 (s.heap.objs.size + 1) s.heap.objs.size 0 .none → h2.IsTupleIter s.heap.objs.size tp 0 → (∀ b ob, s.heap.get? b = some ob → h2.get? b = some ob) → Q (.ref (s.heap.objs.size + 1)) { s with heap := h2 }) :
    wpAny (model prog w) A (call (.type "enumerate") [.ref tp]) Q E s := by
  refine callType_new F.called_enumerate (by decide) (F.typeCall_enumerate_1 _) (F.newCall_enumerate_1 _) (fun ob => F.args_object_init_2 ob _) F.entry_enumerate_new (enum_new_tup tp its) ⟨ht, ?_⟩
  have sz1 : (s.heap.push { cls := .type "tuple_iterator", data := .fields #[.ref tp, .int 0 0] }).objs.size = s.heap.objs.size + 1 := Heap.size_push ..
  show _ ∧ _
  rw [sz1]
  have isE : IsEnum ((s.heap.push { cls := .type "tuple_iterator", data := .fields #[.ref tp, .int 0 0] }).push
      { cls := .type "enumerate", data := .fields #[.none, .bool false, .ref s.heap.objs.size, rawInt 0, .none, .none] }) (s.heap.objs.size + 1) s.heap.objs.size 0 .none := by
    have z := Heap.get?_push_size (s.heap.push { cls := .type "tuple_iterator", data := .fields #[.ref tp, .int 0 0] }) (o := { cls := .type "enumerate", data := .fields #[.none, .bool false, .ref s.heap.objs.size, rawInt 0, .none, .none] }) rfl
    rw [sz1] at z
    exact z
  exact ⟨⟨_, isE, rfl⟩, h _ isE ⟨_, Heap.get?_push_of_some _ (Heap.get?_push_size _ rfl), rfl, rfl⟩ fun b ob q => Heap.get?_push_of_some _ (Heap.get?_push_of_some _ q)⟩
/-- the tuple at a, each item in a new pair -/
def ItE (K : PySem.W.Frag) (a : Addr) : It where
  go := fun i H => ∃ (ys : List V) (y : V), SqT K H a ys ∧ ys[i]? = some y
  yld := fun i H v H2 => ∃ T y, v = .ref T ∧ H T = none ∧ H2 = upd H T (.tup [.int (i : Nat), y]) ∧ ∀ ys, SqT K H a ys → ys[i]? = some y
  stop := fun i H => ∃ ys : List V, SqT K H a ys ∧ ys.length = i
theorem turn_enumT {P : Program} {w : World} {K : PySem.W.Frag} {elts : List Expr} {kk : Nat} {tpos : Pos} (a en it : Addr) :
    Turn P w K (.Tuple elts kk tpos) (ItE K a) [en, it] en (fun i h => (∃ old, IsEnum h en it ((i : Nat) : Int) old) ∧ h.IsTupleIter it a i ∧ en ≠ it) where
  mem := List.mem_cons_self
  obj := fun i h st b hb => by
    obtain ⟨⟨old, h1⟩, ⟨ob, h2, h3, h4⟩, _⟩ := st
    rcases List.mem_cons.mp hb with z | z
    · exact ⟨_, by rw [z]; exact h1, fun v q => by cases q⟩
    · exact ⟨ob, by rw [List.mem_singleton.mp z]; exact h2, fun v q => by rw [h4] at q; cases q⟩
  keep := fun i h h2 st k => by
    obtain ⟨⟨old, h3⟩, h4, h5⟩ := st
    exact ⟨⟨old, k en (by simp) _ h3⟩, h4.at fun ob q => k it (by simp) ob q, h5⟩
  item := by
    intro X hP hw hK hc i pins s σ H E I hf st hg
    subst hP; subst hw; subst hK
    obtain ⟨⟨old, h1⟩, h2, ne⟩ := st
    obtain ⟨ys, y, hq, hy⟩ := hg
    obtain ⟨its, rv, isT, hz⟩ := I.tuple hq
    have aNit : a ≠ it := fun z => by
      obtain ⟨o1, e1, c1, _⟩ := isT
      obtain ⟨o2, e2, c2, _⟩ := h2
      rw [z, e2] at e1
      cases e1
      rw [c2] at c1
      exact absurd c1 (by decide)
    have aNen : a ≠ en := fun z => by
      obtain ⟨o1, e1, c1, _⟩ := isT
      rw [z, h1] at e1
      cases e1
      exact absurd (show Value.type "enumerate" = Value.type "tuple" from c1) (by decide)
    have D := Draws.tuple (prog := X.prog) (w := X.w) (A := X.A.in1) (I.ok.hd hc) it a aNit its.toArray
    obtain ⟨hy1, _⟩ := List.getElem?_eq_some_iff.mp hy
    have hl := rv.length
    refine wpAny_pyNext_enum_itemC D h1 ⟨h2, isT⟩ (by simp; omega) ne (fun z => ?_) fun x h' tk hx ho hst hT hsz hk => ?_
    · rcases List.mem_cons.mp z with q | q
      · exact ne q
      · exact aNen (List.mem_singleton.mp q).symm
    · obtain ⟨u, hu, ru⟩ := rv.get hy
      have ex : x = u := by
        have q : its.toArray[i]? = some x := hx
        rw [List.getElem?_toArray, hu] at q
        exact (Option.some.inj q).symm
      subst ex
      have hen : en < s.heap.objs.size := Heap.lt_size h1
      have hit : it < s.heap.objs.size := by obtain ⟨_, q, _⟩ := h2; exact Heap.lt_size q
      refine ⟨_, rfl, wpAny_letOwnedTupleGo_enum (s := { s with heap := h', toks := tk + 1 }) ho fun h3 he3 sb => ?_⟩
      have hT3 : h3.get? s.heap.objs.size = some { cls := .type "tuple", data := .seq #[.int i tk, x] } := (sb.2 _ (Nat.ne_of_gt hen)).trans hT
      have new : ObjOk X.prog X.w (upd H s.heap.objs.size (.tup [.int (i : Nat), y])) h3 s.heap.objs.size (.tup [.int (i : Nat), y]) := ⟨by show 2 ≤ sizeLine; decide, [.int i tk, x], .cons ⟨_, rfl⟩ (.cons ru .nil), ⟨_, hT3, rfl, _, rfl⟩⟩
      have I1 : Inv X pins σ (upd H s.heap.objs.size (.tup [.int (i : Nat), y])) { s with heap := h3, toks := tk + 1 } := by
        refine I.turnedNew (ch := [en, it]) (fun b ob hb q => ?_) hf (Nat.le_refl _) new
        have b1 : b ≠ en := fun z => hb (by rw [z]; simp)
        have b2 : b ≠ it := fun z => hb (by rw [z]; simp)
        exact (sb.2 b b1).trans (hk b ob b1 b2 q)
      refine ⟨.ref s.heap.objs.size, _, I1, rfl, ⟨_, y, rfl, I.hok.fresh (Nat.le_refl _), rfl, fun zs hzs => by rw [I.tuple_inj hzs hq]; exact hy⟩, ⟨⟨x, ?_⟩, hst.1.at fun ob q => (sb.2 it (Ne.symm ne)).trans q, ne⟩, fun b hb => ?_⟩
      · have z : ((i + 1 : Nat) : Int) = (i : Int) + 1 := by omega
        rw [z]
        exact he3
      · have lt : b < s.heap.objs.size := by
          rcases List.mem_cons.mp hb with z | z
          · rw [z]; exact hen
          · rw [List.mem_singleton.mp z]; exact hit
        rw [upd_ne (Nat.ne_of_lt lt)]
        exact (hf b hb).1
  done := by
    intro X hP hw hK hc i pins s σ H E I hf st hg
    subst hP; subst hw; subst hK
    obtain ⟨⟨old, h1⟩, h2, ne⟩ := st
    obtain ⟨ys, hq, hy⟩ := hg
    obtain ⟨its, rv, isT, hz⟩ := I.tuple hq
    obtain ⟨f0, f1, f2, f3, f4, f5⟩ := hf it (by simp)
    have hl := rv.length
    have aNit : a ≠ it := fun z => by
      obtain ⟨o1, e1, c1, _⟩ := isT
      obtain ⟨o2, e2, c2, _⟩ := h2
      rw [z, e2] at e1
      cases e1
      rw [c2] at c1
      exact absurd c1 (by decide)
    have D := Draws.tuple (prog := X.prog) (w := X.w) (A := X.A.in1) (I.ok.hd hc) it a aNit its.toArray
    have ei : its.toArray.size = i := by rw [List.size_toArray]; omega
    exact wpAny_pyNext_enum_endD D h1 (by rw [ei]; exact ⟨h2, isT⟩) fun h3 eb => ⟨rfl, I.turned (t' := s.toks) (fun b ob hb q => eb b ob hb q) f0 f1 f3 f4 f5⟩
  self := fun A i s Q E st h => by
    obtain ⟨⟨_, h1⟩, _⟩ := st
    exact wpAny_pyIter_enum h1 h
end TC
set_option Elab.async false
set_option linter.all false
set_option maxRecDepth 100000
set_option maxHeartbeats 4000000
/-! Data over the hand layer, part 2: calls, built-ins, what is walked, comprehensions, statements. -/
namespace TC
open PySem L2

/-! ### own defs -/
/-- a def that gives data for data and changes nothing -/
def PSp (K : PySem.W.Frag) (R : List PyData → PyData → Prop) : Sp := fun vs H Q _ => ∃ ds d, DTs K H vs ds ∧ R ds d ∧ ∀ v H', Ex H H' → DT K H' v d → Q v H'
/-- .. its arguments told slot by slot -/
inductive SlsOk (K : PySem.W.Frag) (H : Hp) : List V → List Sl → Prop
  | nil : SlsOk K H [] []
  | cons {v : V} {vs : List V} {x : Sl} {xs : List Sl} : SlOk K H (some (some v)) x → SlsOk K H vs xs → SlsOk K H (v :: vs) (x :: xs)
theorem SlsOk.len {K : PySem.W.Frag} {H : Hp} : ∀ {vs : List V} {xs : List Sl}, SlsOk K H vs xs → vs.length = xs.length
  | _, _, .nil => rfl
  | _, _, .cons _ t => congrArg Nat.succ (SlsOk.len t)
theorem SlsOk.at_ {K : PySem.W.Frag} {H : Hp} : ∀ {vs : List V} {xs : List Sl} {i : Nat} {x : Sl}, SlsOk K H vs xs → xs[i]? = some x → ∃ v, vs[i]? = some v ∧ SlOk K H (some (some v)) x
  | _, _, 0, _, .cons h _, e => by simp at e; subst e; exact ⟨_, rfl, h⟩
  | _, _, i + 1, d, .cons _ t, e => by
    obtain ⟨v, h1, h2⟩ := SlsOk.at_ (i := i) (x := d) t (by simpa using e)
    exact ⟨v, by simpa using h1, h2⟩
  | _, _, _, _, .nil, e => by simp at e
theorem VsOk.sls {K : PySem.W.Frag} {H H' : Hp} : ∀ {vs : List V} {xs : List Sl}, VsOk K H H' vs xs → SlsOk K H' vs xs
  | _, _, .nil => .nil
  | _, _, .cons h t => .cons (VOk.slot h) (VsOk.sls t)
def ASp (K : PySem.W.Frag) (R : List Sl → PyData → Prop) : Sp := fun vs H Q _ => ∃ xs d, SlsOk K H vs xs ∧ R xs d ∧ ∀ v H', Ex H H' → DT K H' v d → Q v H'
/-- the def x of the module keeps sp within k calls; its last parameters are dvs where they are not given -/
structure Cal (P : Program) (w : World) (K : PySem.W.Frag) (mg : Str → Option Value) (base : Heap) (k : Nat) (x : Str) (sp : Sp) (dvs : List V) : Prop where
  there : ∃ (f : Addr) (fd : FuncData) (ps : List Str) (ds : List Value), mg x = some (.ref f) ∧ PySem.W.keepIn K (.ref f) = true ∧ FnOk P w K mg base CX0 k f fd ps sp ∧ Binds K fd ps ds ∧ Vals dvs ds
section
variable {X : Cx} {ρ : List Sl} {a b c e : Expr} {es : List Expr} {pos p : Pos}
theorem pe_own {k j : Nat} {x : Str} {sp : Sp} {dvs : List V} {t : TA} (cl : Cal X.prog X.w X.K X.mg X.base k x sp dvs) (hr : Room j X.A) (hk : k ≤ j) (hg : Gl X x) (ha : PA X (e :: es) t) (hdb : (x == ("__debug__" : Str)) = false)
    (he : starEach (e :: es) X.env = (false, eval e X.env) :: starEach es X.env) (hpl : (backTo pos (starEach es X.env)).any (·.1) = false) : PE X (.Call (.Name x p) (e :: es) [] pos) (tCall sp dvs E0 t) := by
  obtain ⟨f, fd, ps, ds, m, kp, F, b, d⟩ := cl.there
  exact pe_call F (hr.mono hk) hg m kp b d pass0 ha hdb he hpl
theorem ed_call {k j : Nat} {x : Str} {R : List PyData → PyData → Prop} {ds : List PyData} {d : PyData} (cl : Cal X.prog X.w X.K X.mg X.base k x (PSp X.K R) []) (hr : Room j X.A) (ha : AD X ρ (e :: es) (ds.map .d)) (h : R ds d) (hk : k ≤ j := by decide) (hg : Gl X x := by rfl)
    (hdb : (x == ("__debug__" : Str)) = false := by decide) (he : starEach (e :: es) X.env = (false, eval e X.env) :: starEach es X.env := by rfl) (hpl : (backTo pos (starEach es X.env)).any (·.1) = false := by rfl) : ED X ρ (.Call (.Name x p) (e :: es) [] pos) d := fun σ H ev Q q =>
  wE_of (pe_own cl hr hk hg pa_w hdb he hpl) (ha σ H ev _ fun vs H1 e1 o1 => ⟨ds, d, by rw [List.append_nil]; exact o1.dts, h, fun v H2 e2 o2 => q v H2 (e1.tr e2) o2⟩)
theorem ed_callA {k j : Nat} {x : Str} {R : List Sl → PyData → Prop} {xs : List Sl} {d : PyData} (cl : Cal X.prog X.w X.K X.mg X.base k x (ASp X.K R) []) (hr : Room j X.A) (ha : AD X ρ (e :: es) xs) (h : R xs d) (hk : k ≤ j := by decide) (hg : Gl X x := by rfl)
    (hdb : (x == ("__debug__" : Str)) = false := by decide) (he : starEach (e :: es) X.env = (false, eval e X.env) :: starEach es X.env := by rfl) (hpl : (backTo pos (starEach es X.env)).any (·.1) = false := by rfl) : ED X ρ (.Call (.Name x p) (e :: es) [] pos) d := fun σ H ev Q q =>
  wE_of (pe_own cl hr hk hg pa_w hdb he hpl) (ha σ H ev _ fun vs H1 e1 o1 => ⟨xs, d, by rw [List.append_nil]; exact o1.sls, h, fun v H2 e2 o2 => q v H2 (e1.tr e2) o2⟩)
/-- .. with defaults filled up -/
theorem ed_callD {k j : Nat} {x : Str} {R : List PyData → PyData → Prop} {ds dds : List PyData} {d : PyData} {dvs : List V} (cl : Cal X.prog X.w X.K X.mg X.base k x (PSp X.K R) dvs) (hd : ∀ H, DTs X.K H dvs dds) (hr : Room j X.A) (ha : AD X ρ (e :: es) (ds.map .d)) (h : R (ds ++ dds) d) (hk : k ≤ j := by decide) (hg : Gl X x := by rfl)
    (hdb : (x == ("__debug__" : Str)) = false := by decide) (he : starEach (e :: es) X.env = (false, eval e X.env) :: starEach es X.env := by rfl) (hpl : (backTo pos (starEach es X.env)).any (·.1) = false := by rfl) : ED X ρ (.Call (.Name x p) (e :: es) [] pos) d := fun σ H ev Q q =>
  wE_of (pe_own cl hr hk hg pa_w hdb he hpl) (ha σ H ev _ fun vs H1 e1 o1 => ⟨ds ++ dds, d, o1.dts.app (hd H1), h, fun v H2 e2 o2 => q v H2 (e1.tr e2) o2⟩)
/-! ### built-ins -/
theorem ev_ty {x : Str} {T : String} (hm : X.mg x = none) (hv : bootBuiltins x = some (.type T)) (hg : Gl X x := by rfl) (hn : x ≠ "__name__" := by decide) (hd : (x == ("__debug__" : Str)) = false := by decide) : EV X ρ (.Name x pos) (.r (.ty T)) := fun σ H ev Q q =>
  wE_of (pe_bltn (v := .ty T) hg hm hv rfl hn hd) (q _ H (Ex.rf H) rfl)
theorem bt_int : bootBuiltins "int" = some (.type "int") := by decide +kernel
theorem bt_bool : bootBuiltins "bool" = some (.type "bool") := by decide +kernel
theorem bt_str : bootBuiltins "str" = some (.type "str") := by decide +kernel
theorem bt_tuple : bootBuiltins "tuple" = some (.type "tuple") := by decide +kernel
theorem bt_list : bootBuiltins "list" = some (.type "list") := by decide +kernel
theorem bt_isinstance : bootBuiltins "isinstance" = some (.builtin "isinstance") := by decide +kernel
theorem bt_all : bootBuiltins "all" = some (.builtin "all") := by decide +kernel
theorem bt_any : bootBuiltins "any" = some (.builtin "any") := by decide +kernel
theorem bt_sum : bootBuiltins "sum" = some (.builtin "sum") := by decide +kernel
theorem bt_min : bootBuiltins "min" = some (.builtin "min") := by decide +kernel
theorem bt_max : bootBuiltins "max" = some (.builtin "max") := by decide +kernel
theorem kt_ii : kitB "int" "int" = some true := by decide +kernel
theorem kt_ib : kitB "int" "bool" = some false := by decide +kernel
theorem kt_tt : kitB "tuple" "tuple" = some true := by decide +kernel
theorem kt_ss : kitB "str" "str" = some true := by decide +kernel
/-- the name of a value's type -/
def tyD : PyData → String
  | .none => "NoneType"
  | .bool _ => "bool"
  | .int _ => "int"
  | .str _ => "str"
  | .list _ => "list"
  | .tuple _ => "tuple"
  | .dict _ => "dict"
theorem DT.ty {K : PySem.W.Frag} {H : Hp} {v : V} {d : PyData} (h : DT K H v d) : TyX K H v (.type (tyD d)) := by
  cases h with
  | non => exact .base .non
  | bl b => exact .base (.bl b)
  | int i => exact .base (.int i)
  | str x => exact .base (.str x)
  | tup s r =>
    rename_i ds
    cases q : isCells ds with
    | true => obtain ⟨o, _, h2⟩ := s.1 q; exact .fTuple h2
    | false => exact .base (.tup (s.2 q))
theorem ed_isi (tn : String) {T : String} {d : PyData} {k : Bool} (hm : X.mg "isinstance" = none) (ha : ED X ρ a d) (hb : EV X ρ b (.r (.ty T))) (hk : kitB tn T = some k) (hty : tyD d = tn := by rfl) (hg : Gl X "isinstance" := by rfl)
    (he : starEach [a, b] X.env = (false, eval a X.env) :: starEach [b] X.env := by rfl) (he2 : starEach [b] X.env = (false, eval b X.env) :: starEach [] X.env := by rfl) (hpl : (backTo pos (starEach [b] X.env)).any (·.1) = false := by rfl) : ED X ρ (.Call (.Name "isinstance" p) [a, b] [] pos) (.bool k) := fun σ H ev Q q =>
  wE_of (pe_callB call_isi hg hm bt_isinstance (pa_cons pe_w (pa_cons pe_w pa_nil he2) he) (by decide) (by decide) he hpl) (ha σ H ev _ fun v H1 e1 o1 => hb σ H1 (ev.ex e1) _ fun w H2 e2 o2 => by
    cases (show w = V.ty T from o2)
    exact ⟨v, .ty T, .type (tyD d), .type T, k, rfl, .ty T, ((show DT X.K H1 v d from o1).te e2.te).ty, kit_ty (by rw [hty]; exact hk), q _ H2 (e1.tr e2) (.bl k)⟩)
section
variable (he1 : starEach [a] X.env = (false, eval a X.env) :: starEach [] X.env)
theorem ed_lenT {ds : List PyData} (hm : X.mg "len" = none) (ha : ED X ρ a (.tuple ds)) (hg : Gl X "len" := by rfl) (he : starEach [a] X.env = (false, eval a X.env) :: starEach [] X.env := by rfl) (hpl : (backTo pos (starEach [] X.env)).any (·.1) = false := by rfl) : ED X ρ (.Call (.Name "len" p) [a] [] pos) (.int (ds.length : Int)) := fun σ H ev Q q =>
  wE_of (pe_callB call_len_seq hg hm PySem.boot_len (pa_cons pe_w pa_nil he) (by decide) (by decide) he hpl) (ha σ H ev _ fun v H1 e1 o1 => by
    obtain ⟨t, xs, rfl, s, r⟩ := (show DT X.K H1 v (.tuple ds) from o1).of_tup
    exact ⟨t, xs, rfl, .inr s.sq, by rw [r.len]; exact q _ H1 e1 (.int _)⟩)
theorem ed_lenL {ds : List PyData} (hm : X.mg "len" = none) (ha : ER X ρ a ds) (hg : Gl X "len" := by rfl) (he : starEach [a] X.env = (false, eval a X.env) :: starEach [] X.env := by rfl) (hpl : (backTo pos (starEach [] X.env)).any (·.1) = false := by rfl) : ED X ρ (.Call (.Name "len" p) [a] [] pos) (.int (ds.length : Int)) := fun σ H ev Q q =>
  wE_of (pe_callB call_len_seq hg hm PySem.boot_len (pa_cons pe_w pa_nil he) (by decide) (by decide) he hpl) (ha σ H ev _ fun t xs H1 e1 o1 r => ⟨t, xs, rfl, .inl (.of o1), by rw [r.len]; exact q _ H1 e1 (.int _)⟩)
theorem ed_all {bs : List Bool} (hm : X.mg "all" = none) (hc : X.calm = true) (ha : ER X ρ a (bs.map .bool)) (hg : Gl X "all" := by rfl) (he : starEach [a] X.env = (false, eval a X.env) :: starEach [] X.env := by rfl) (hpl : (backTo pos (starEach [] X.env)).any (·.1) = false := by rfl) : ED X ρ (.Call (.Name "all" p) [a] [] pos) (.bool (bs.all id)) := fun σ H ev Q q =>
  wE_of (pe_callB (cr_all hc) hg hm bt_all (pa_cons pe_w pa_nil he) (by decide) (by decide) he hpl) (ha σ H ev _ fun t xs H1 e1 o1 r => ⟨t, bs, rfl, by rw [r.bools bs] at o1; exact .of o1, q _ H1 e1 (.bl _)⟩)
theorem ed_any {bs : List Bool} (hm : X.mg "any" = none) (hc : X.calm = true) (ha : ER X ρ a (bs.map .bool)) (hg : Gl X "any" := by rfl) (he : starEach [a] X.env = (false, eval a X.env) :: starEach [] X.env := by rfl) (hpl : (backTo pos (starEach [] X.env)).any (·.1) = false := by rfl) : ED X ρ (.Call (.Name "any" p) [a] [] pos) (.bool (bs.any id)) := fun σ H ev Q q =>
  wE_of (pe_callB (cr_any hc) hg hm bt_any (pa_cons pe_w pa_nil he) (by decide) (by decide) he hpl) (ha σ H ev _ fun t xs H1 e1 o1 r => ⟨t, bs, rfl, by rw [r.bools bs] at o1; exact .of o1, q _ H1 e1 (.bl _)⟩)
theorem ed_sum {ns : List Int} (hm : X.mg "sum" = none) (hc : X.calm = true) (ha : ER X ρ a (ns.map .int)) (hg : Gl X "sum" := by rfl) (he : starEach [a] X.env = (false, eval a X.env) :: starEach [] X.env := by rfl) (hpl : (backTo pos (starEach [] X.env)).any (·.1) = false := by rfl) : ED X ρ (.Call (.Name "sum" p) [a] [] pos) (.int ns.sum) := fun σ H ev Q q =>
  wE_of (pe_callB (cr_sum hc) hg hm bt_sum (pa_cons pe_w pa_nil he) (by decide) (by decide) he hpl) (ha σ H ev _ fun t xs H1 e1 o1 r => ⟨t, ns, rfl, by rw [r.ints ns] at o1; exact .of o1, q _ H1 e1 (.int _)⟩)
theorem ed_tupOf {ds : List PyData} (hm : X.mg "tuple" = none) (ha : ER X ρ a ds) (hg : Gl X "tuple" := by rfl) (he : starEach [a] X.env = (false, eval a X.env) :: starEach [] X.env := by rfl) : ED X ρ (.Call (.Name "tuple" p) [a] [] pos) (.tuple ds) := fun σ H ev Q q =>
  wE_of (pe_tupleOfX (isCells ds) hg hm pe_w he) (ha σ H ev _ fun t xs H1 e1 o1 r => ⟨t, xs, rfl, .of o1, fun n o ho hn => q _ _ (e1.tr (Ex.up hn)) (.tup (Stp.new ho) (r.te (Ex.up hn).te))⟩)
theorem ev_lstOf {ds : List PyData} (hm : X.mg "list" = none) (ha : ED X ρ a (.tuple ds)) (hg : Gl X "list" := by rfl) (he : starEach [a] X.env = (false, eval a X.env) :: starEach [] X.env := by rfl) (hpl : (backTo pos (starEach [] X.env)).any (·.1) = false := by rfl) : EV X ρ (.Call (.Name "list" p) [a] [] pos) (.l ds) := fun σ H ev Q q =>
  wE_of (pe_callTy call_list_of hg hm bt_list (pa_cons pe_w pa_nil he) (by decide) (by decide) he hpl) (ha σ H ev _ fun v H1 e1 o1 => by
    obtain ⟨t, xs, rfl, s, r⟩ := (show DT X.K H1 v (.tuple ds) from o1).of_tup
    exact ⟨t, xs, rfl, .inr s.sq, fun n hn => q _ _ (e1.tr (Ex.up hn)) ⟨n, xs, rfl, e1.back hn, upd_same, r.te (Ex.up hn).te⟩⟩)
end
section
variable {i j : Int}
theorem ed_min (hm : X.mg "min" = none) (hc : X.calm = true) (ha : ED X ρ a (.int i)) (hb : ED X ρ b (.int j)) (hg : Gl X "min" := by rfl) (he : starEach [a, b] X.env = (false, eval a X.env) :: starEach [b] X.env := by rfl) (he2 : starEach [b] X.env = (false, eval b X.env) :: starEach [] X.env := by rfl)
    (hpl : (backTo pos (starEach [b] X.env)).any (·.1) = false := by rfl) : ED X ρ (.Call (.Name "min" p) [a, b] [] pos) (.int (if j < i then j else i)) := fun σ H ev Q q =>
  wE_of (pe_callB (call_min2 hc) hg hm bt_min (pa_cons pe_w (pa_cons pe_w pa_nil he2) he) (by decide) (by decide) he hpl) (ha σ H ev _ fun v H1 e1 o1 => hb σ H1 (ev.ex e1) _ fun w H2 e2 o2 => by
    cases (show DT X.K H1 v (.int i) from o1).of_int
    cases (show DT X.K H2 w (.int j) from o2).of_int
    exact ⟨i, j, rfl, q _ H2 (e1.tr e2) (.int _)⟩)
theorem ed_max (hm : X.mg "max" = none) (hc : X.calm = true) (ha : ED X ρ a (.int i)) (hb : ED X ρ b (.int j)) (hg : Gl X "max" := by rfl) (he : starEach [a, b] X.env = (false, eval a X.env) :: starEach [b] X.env := by rfl) (he2 : starEach [b] X.env = (false, eval b X.env) :: starEach [] X.env := by rfl)
    (hpl : (backTo pos (starEach [b] X.env)).any (·.1) = false := by rfl) : ED X ρ (.Call (.Name "max" p) [a, b] [] pos) (.int (if j > i then j else i)) := fun σ H ev Q q =>
  wE_of (pe_callB (call_max2 hc) hg hm bt_max (pa_cons pe_w (pa_cons pe_w pa_nil he2) he) (by decide) (by decide) he hpl) (ha σ H ev _ fun v H1 e1 o1 => hb σ H1 (ev.ex e1) _ fun w H2 e2 o2 => by
    cases (show DT X.K H1 v (.int i) from o1).of_int
    cases (show DT X.K H2 w (.int j) from o2).of_int
    exact ⟨i, j, rfl, q _ H2 (e1.tr e2) (.int _)⟩)
end
/-! ### in -/
theorem op_inT (hu : X.A.units + 65 < cLine) : OpR X (compareOp .In) (fun x y H Q => ∃ d ds, Dp X.K H x d ∧ Dp X.K H y (.tuple ds) ∧ SeqAt.shaped d = true ∧ SeqAt.shaped (.tuple ds) = true ∧ Q (.bl (ds.any fun z => PyData.eqv z d)) H) := by
  intro pins s σ H x y v u Q I rx ry h
  obtain ⟨d, ds, h1, h2, s1, s2, q⟩ := h
  obtain ⟨as, r1⟩ := Dp.reads I d x v h1 rx
  obtain ⟨bs, r2⟩ := Dp.reads I (.tuple ds) y u h2 ry
  exact SeqAt.in_tuple_reads r2 r1 (SeqAt.canLay_of_shaped s2) (SeqAt.canLay_of_shaped s1) (PyProof.Rows.room_in_shaped s1 hu) ⟨.bl _, H, I, rfl, q⟩
theorem op_niT (hu : X.A.units + 65 < cLine) : OpR X (compareOp .NotIn) (fun x y H Q => ∃ d ds, Dp X.K H x d ∧ Dp X.K H y (.tuple ds) ∧ SeqAt.shaped d = true ∧ SeqAt.shaped (.tuple ds) = true ∧ Q (.bl (!ds.any fun z => PyData.eqv z d)) H) := by
  intro pins s σ H x y v u Q I rx ry h
  obtain ⟨d, ds, h1, h2, s1, s2, q⟩ := h
  obtain ⟨as, r1⟩ := Dp.reads I d x v h1 rx
  obtain ⟨bs, r2⟩ := Dp.reads I (.tuple ds) y u h2 ry
  exact SeqAt.notIn_tuple_reads r2 r1 (SeqAt.canLay_of_shaped s2) (SeqAt.canLay_of_shaped s1) (PyProof.Rows.room_in_shaped s1 hu) ⟨.bl _, H, I, rfl, q⟩
theorem ed_inL {d : PyData} {ds : List PyData} (hu : X.A.units + 65 < cLine) (ha : ED X ρ a d) (hb : ER X ρ b ds) (h1 : SeqAt.shaped d = true) (h2 : SeqAt.shaped (.list ds) = true) (hm : behindInMarks .In b = false := by with_unfolding_all rfl) : ED X ρ (.Compare a [.In] [b] pos) (.bool (ds.any fun z => PyData.eqv z d)) := fun σ H ev Q q =>
  wE_of (pe_cmpR (op_inD hu) pe_w pe_w hm) (ha σ H ev _ fun v H1 e1 o1 => hb σ H1 (ev.ex e1) _ fun t xs H2 e2 o2 r => ⟨d, ds, ((show DT X.K H1 v d from o1).te e2.te).dp, .lst (.of o2) r.dp, h1, h2, q _ H2 (e1.tr e2) (.bl _)⟩)
end

/-! ### what is walked -/
def YD (K : PySem.W.Frag) (ds : List PyData) : Nat → Hp → V → Hp → Prop := fun i H x H' => Ex H H' ∧ ∃ d, ds[i]? = some d ∧ DT K H' x d
/-- iter gives ds, one behind another, as long as the tuples stay | as long as all stays -/
def IT (X : Cx) (ρ : List Sl) (tg iter : Expr) (ds : List PyData) : Prop := ∃ wi : TI, PI X tg iter wi ∧ ∀ σ H, Env X.K H σ ρ → ∀ R : It → Hp → Prop, (∀ J H', Ex H H' → Walk J ds.length (fun H2 => Tk H' H2) (YD X.K ds) → R J H') → wi σ H R
def IC (X : Cx) (ρ : List Sl) (tg iter : Expr) (ds : List PyData) : Prop := ∃ wi : TI, PI X tg iter wi ∧ ∀ σ H, Env X.K H σ ρ → ∀ R : It → Hp → Prop, (∀ J H', Ex H H' → Walk J ds.length (fun H2 => Ex H' H2) (YD X.K ds) → R J H') → wi σ H R
def enumD (ds : List PyData) : List PyData := ds.mapIdx fun i d => .tuple [.int (i : Nat), d]
def rangeD (n : Nat) : List PyData := (List.range n).map fun i => .int (i : Nat)
section
variable {X : Cx} {ρ : List Sl} {tg a iter : Expr} {pos p : Pos}
theorem IT.ic {ds : List PyData} (h : IT X ρ tg iter ds) : IC X ρ tg iter ds := by
  obtain ⟨wi, h1, h2⟩ := h
  exact ⟨wi, h1, fun σ H ev R r => h2 σ H ev R fun J H' e w => r J H' e (w.mono (fun _ q => q.te) fun _ _ _ _ _ _ y => y)⟩
theorem it_tup {ds : List PyData} (h : ED X ρ iter (.tuple ds)) : IT X ρ tg iter ds := by
  refine ⟨_, pi_tup pe_w, fun σ H ev R r => h σ H ev _ fun v H1 e1 o1 => ?_⟩
  obtain ⟨t, xs, rfl, s, q⟩ := (show DT X.K H1 v (.tuple ds) from o1).of_tup
  refine ⟨t, rfl, ⟨xs, s.sq⟩, r _ H1 e1 ?_⟩
  rw [← q.len]
  exact (walk_tup (K := X.K) (a := t) (xs := xs)).mono (fun H2 k => (s.te k).sq) fun i H2 x H3 _ k y => by
    obtain ⟨rfl, hx⟩ := y
    have hl : i < ds.length := by rw [← q.len]; exact (List.getElem?_eq_some_iff.mp hx).1
    obtain ⟨v, h1, h2⟩ := q.at_ (List.getElem?_eq_getElem hl)
    rw [hx] at h1
    cases h1
    exact ⟨Ex.rf _, _, List.getElem?_eq_getElem hl, h2.te k⟩
theorem ic_list {ds : List PyData} (h : ER X ρ iter ds) : IC X ρ tg iter ds := by
  refine ⟨_, pi_list pe_w, fun σ H ev R r => h σ H ev _ fun t xs H1 e1 o1 q => ?_⟩
  refine ⟨t, rfl, ⟨xs, .of o1⟩, r _ H1 e1 ?_⟩
  rw [← q.len]
  exact (walk_list (K := X.K) (a := t) (xs := xs)).mono (fun H2 k => .of (k _ _ o1)) fun i H2 x H3 _ k y => by
    obtain ⟨rfl, hx⟩ := y
    have hl : i < ds.length := by rw [← q.len]; exact (List.getElem?_eq_some_iff.mp hx).1
    obtain ⟨v, h1, h2⟩ := q.at_ (List.getElem?_eq_getElem hl)
    rw [hx] at h1
    cases h1
    exact ⟨Ex.rf _, _, List.getElem?_eq_getElem hl, h2.te k.te⟩
theorem rangeD_len {n : Nat} : (rangeD n).length = n := by simp [rangeD]
theorem rangeD_at {n i : Nat} (h : i < n) : (rangeD n)[i]? = some (.int (i : Nat)) := by simp [rangeD, h]
theorem it_range {n : Nat} (hm : X.mg "range" = none) (ha : ED X ρ a (.int (n : Int))) (hz : (n : Int) < 2 ^ 62) (hg : Gl X "range" := by rfl) (hs : starEach [a] X.env = [(false, eval a X.env)] := by rfl) : IT X ρ tg (.Call (.Name "range" p) [a] [] pos) (rangeD n) := by
  refine ⟨_, pi_range1 hg hm (pa_cons pe_w pa_nil hs) hs, fun σ H ev R r => ha σ H ev _ fun v H1 e1 o1 => ⟨(n : Int), ?_, by omega, hz, r _ H1 e1 ?_⟩⟩
  · rw [(show DT X.K H1 v (.int (n : Int)) from o1).of_int]
  · rw [rangeD_len, Int.toNat_natCast]
    exact (walk_range (lo := 0) (n := n)).mono (fun _ _ => trivial) fun i H2 x H3 hi k y => by
      obtain ⟨rfl, rfl⟩ := y
      refine ⟨Ex.rf _, _, rangeD_at hi, ?_⟩
      show DT X.K H3 (.int (0 + (i : Int))) (.int (i : Int))
      rw [Int.zero_add]
      exact .int _
theorem enumD_len {ds : List PyData} : (enumD ds).length = ds.length := by simp [enumD]
theorem enumD_at {ds : List PyData} {i : Nat} {d : PyData} (h : ds[i]? = some d) : (enumD ds)[i]? = some (.tuple [.int (i : Nat), d]) := by simp [enumD, h]
theorem it_enum {ds : List PyData} {elts : List Expr} {kk : Nat} {tpos : Pos} (hm : X.mg "enumerate" = none) (ha : ED X ρ a (.tuple ds)) (hg : Gl X "enumerate" := by rfl) (hs : starEach [a] X.env = [(false, eval a X.env)] := by rfl) :
    IT X ρ (.Tuple elts kk tpos) (.Call (.Name "enumerate" p) [a] [] pos) (enumD ds) := by
  refine ⟨fun σ H R => wE X a σ H fun v H1 => ∃ t xs, v = .ref t ∧ SqT X.K H1 t xs ∧ R (ItE X.K t) H1, ⟨fun pins s σ H R I h => ?_⟩, fun σ H ev R r => ha σ H ev _ fun v H1 e1 o1 => ?_⟩
  · refine PyProof.Rows.Call_ (ld_blt I hg hm PyProof.Rows.boot_enumerate (PyProof.Rows.callWith_type1 (thn ((pa_cons pe_w pa_nil hs).run pos pins s σ H (fun vs H1 => ∃ v, vs = [v] ∧ ∃ t xs, v = .ref t ∧ SqT X.K H1 t xs ∧ R (ItE X.K t) H1) I ?_) fun us s1 ⟨vs, H1, I1, r1, q1⟩ => ?_) hs rfl))
    · exact ⟨fun pins2 s2 I2 => thn (h.it pins2 s2 I2) fun v s3 ⟨x, H3, I3, r3, q3⟩ => ⟨x, H3, I3, r3, x, rfl, q3⟩⟩
    · obtain ⟨v, rfl, t, xs, rfl, hq, q⟩ := q1
      cases r1 with
      | cons r rr =>
        cases rr
        cases r
        obtain ⟨its, rv, isT, hz⟩ := I1.tuple hq
        refine enum_call_tup (show s1.heap.IsTuple t its.toArray from isT) fun h2 he hit hk => wpAny_pyIter_enum he ?_
        refine ⟨s1.heap.objs.size + 1, [s1.heap.objs.size + 1, s1.heap.objs.size], _, _, H1, rfl, I1.kept (t' := s1.toks) hk, turn_enumT t (s1.heap.objs.size + 1) s1.heap.objs.size, ⟨⟨.none, he⟩, hit, Nat.succ_ne_self _⟩, fun b hb => ?_, q⟩
        have le : s1.heap.objs.size ≤ b := by
          rcases List.mem_cons.mp hb with z | z
          · rw [z]; exact Nat.le_succ _
          · rw [List.mem_singleton.mp z]; exact Nat.le_refl _
        exact I1.fpOk le (I1.hok.fresh le)
  · obtain ⟨t, xs, rfl, s, q⟩ := (show DT X.K H1 v (.tuple ds) from o1).of_tup
    refine ⟨t, xs, rfl, s.sq, r _ H1 e1 ?_⟩
    rw [enumD_len, ← q.len]
    refine ⟨fun i H2 hi k => ⟨xs, xs[i], (s.te k).sq, by simp [hi]⟩, fun H2 k => ⟨xs, (s.te k).sq, rfl⟩, fun i H2 x H3 hi k y => ?_⟩
    obtain ⟨T, z, rfl, hn, rfl, hx⟩ := y
    have hz := hx xs (s.te k).sq
    have hl : i < ds.length := by rw [← q.len]; exact hi
    obtain ⟨v, h1, h2⟩ := q.at_ (List.getElem?_eq_getElem hl)
    rw [hz] at h1
    cases h1
    exact ⟨Ex.up hn, _, enumD_at (List.getElem?_eq_getElem hl), .tup ⟨fun q => (Bool.noConfusion (show false = true from q)), fun _ => upd_same⟩ (.cons (.int _) (.cons (h2.te (k.tr (Ex.up hn).te)) .nil))⟩
end

end TC
set_option Elab.async false
set_option linter.all false
set_option maxRecDepth 100000
set_option maxHeartbeats 4000000
/-! Data over the hand layer, part 3: targets, comprehensions, statements. -/
namespace TC
open PySem L2

/-! ### targets -/
def setsV : List (Nat × V) → L2.St → L2.St
  | [], σ => σ
  | u :: us, σ => setsV us (σ.set u.1 (some u.2))
def setsD : List (Nat × PyData) → List Sl → List Sl
  | [], ρ => ρ
  | u :: us, ρ => setsD us (ρ.set u.1 (.d u.2))
inductive UpOk (K : PySem.W.Frag) (H : Hp) : List (Nat × V) → List (Nat × PyData) → Prop
  | nil : UpOk K H [] []
  | cons {i : Nat} {v : V} {d : PyData} {us : List (Nat × V)} {ps : List (Nat × PyData)} : DT K H v d → UpOk K H us ps → UpOk K H ((i, v) :: us) ((i, d) :: ps)
theorem UpOk.app {K : PySem.W.Frag} {H : Hp} : ∀ {us ws : List (Nat × V)} {ps qs : List (Nat × PyData)}, UpOk K H us ps → UpOk K H ws qs → UpOk K H (us ++ ws) (ps ++ qs)
  | _, _, _, _, .nil, r => r
  | _, _, _, _, .cons h t, r => .cons h (UpOk.app t r)
theorem setsV_app : ∀ (us ws : List (Nat × V)) (σ : L2.St), setsV (us ++ ws) σ = setsV ws (setsV us σ)
  | [], _, _ => rfl
  | u :: us, ws, σ => setsV_app us ws _
theorem UpOk.env {K : PySem.W.Frag} {H : Hp} : ∀ {us : List (Nat × V)} {ps : List (Nat × PyData)} {σ : L2.St} {ρ : List Sl}, UpOk K H us ps → Env K H σ ρ → Env K H (setsV us σ) (setsD ps ρ)
  | _, _, _, _, .nil, e => e
  | _, _, σ, ρ, .cons (i := i) (v := v) (d := d) h t, e => UpOk.env (σ := σ.set i (some v)) (ρ := ρ.set i (.d d)) t (e.put (x := .d d) ⟨_, rfl, h⟩)
theorem UpOk.envB {K : PySem.W.Frag} {B : Hp} {F : Addr → Prop} {H : Hp} : ∀ {us : List (Nat × V)} {ps : List (Nat × PyData)} {σ : L2.St} {ρ : List Sl}, UpOk K H us ps → EnvB K B F H σ ρ → EnvB K B F H (setsV us σ) (setsD ps ρ)
  | _, _, _, _, .nil, e => e
  | _, _, σ, ρ, .cons (i := i) (v := v) (d := d) h t, e => UpOk.envB (σ := σ.set i (some v)) (ρ := ρ.set i (.d d)) t (e.put (x := .d d) (Ex.rf H) h)
/-- d stored by tg fills these slots -/
def GD (X : Cx) (tg : Expr) (d : PyData) (ps : List (Nat × PyData)) : Prop := ∀ σ H v, DT X.K H v d → ∀ Q : L2.St → Hp → Prop, (∀ us, UpOk X.K H us ps → Q (setsV us σ) H) → wG X tg v σ H Q
def GDs (X : Cx) (ts : List Expr) (ds : List PyData) (ps : List (Nat × PyData)) : Prop := ∃ t : TGs, PGs X ts t ∧ ∀ σ H vs, DTs X.K H vs ds → ∀ Q : L2.St → Hp → Prop, (∀ us, UpOk X.K H us ps → Q (setsV us σ) H) → t vs σ H Q
section
variable {X : Cx} {pos : Pos}
theorem gd_name (i : Nat) {x : Str} {d : PyData} (hN : X.N.Nodup) (hi : X.N[i]? = some x := by rfl) (hx : Loc X.env.scope x := by first | exact Or.inl rfl | exact Or.inr rfl) (hf : X.fn x = true ∨ X.env.scope.names.lookup x = some .local := by first | exact .inl rfl | exact .inr rfl) : GD X (.Name x pos) d [(i, d)] := fun σ H v h Q q =>
  wG_of (pg_name hN hi hx hf) (q [(i, v)] (.cons h .nil))
theorem gds_nil : GDs X [] [] [] := ⟨_, pgs_nil, fun σ H vs h Q q => by cases h; exact ⟨rfl, q [] .nil⟩⟩
theorem gds_cons {e : Expr} {es : List Expr} {d : PyData} {ds : List PyData} {p q : List (Nat × PyData)} (h : GD X e d p) (t : GDs X es ds q) (hs : (assignEach (e :: es) X.env).map (·.2) = assign e X.env :: (assignEach es X.env).map (·.2) := by rfl) : GDs X (e :: es) (d :: ds) (p ++ q) := by
  obtain ⟨u, h1, h2⟩ := t
  refine ⟨_, pgs_cons pg_w h1 hs, fun σ H vs hv Q k => ?_⟩
  cases hv with
  | cons a b => exact ⟨_, _, rfl, h σ H _ a _ fun us ok => h2 _ H _ b Q fun ws ok' => by
      have z := k (us ++ ws) (ok.app ok')
      rw [setsV_app] at z
      exact z⟩
theorem gd_tup {es : List Expr} {k : Nat} {ds : List PyData} {ps : List (Nat × PyData)} {n : Nat} (hc : X.calm = true) (h : GDs X es ds ps) (hl : ds.length = n) (hn : (assignEach es X.env).length = n := by rfl) (hst : (assignEach es X.env).findIdx? (·.1) = none := by rfl) : GD X (.Tuple es k pos) (.tuple ds) ps := fun σ H v hv Q q => by
  obtain ⟨t, h1, h2⟩ := h
  obtain ⟨a, xs, rfl, s, r⟩ := hv.of_tup
  exact wG_of (pg_tup hc h1 hn hst) ⟨a, xs, rfl, s.sq, by rw [r.len]; exact hl, h2 σ H xs r Q q⟩
end

/-! ### comprehensions -/
def wipeS (ρ : List Sl) : List Nat → List Sl
  | [] => ρ
  | v :: vs => (wipeS ρ vs).set v .no
theorem Env.hush {K : PySem.W.Frag} {H : Hp} {σ : L2.St} {ρ : List Sl} {i : Nat} (h : Env K H σ ρ) : Env K H (σ.set i none) (ρ.set i .no) := by
  refine ⟨by simp [h.len], fun j y e => ?_⟩
  by_cases hj : i = j
  · subst hj
    by_cases hi : i < ρ.length
    · rw [List.getElem?_set_self hi] at e; cases e
      exact trivial
    · rw [List.getElem?_eq_none (by simpa using hi)] at e; cases e
  · rw [List.getElem?_set_ne hj] at e ⊢; exact h.sl j y e
theorem Env.wipe {K : PySem.W.Frag} {H : Hp} {σ : L2.St} {ρ : List Sl} (h : Env K H σ ρ) : ∀ vs : List Nat, Env K H (L2.wipe σ vs) (wipeS ρ vs)
  | [] => h
  | v :: vs => (Env.wipe h vs).hush
theorem wipe_at {vs : List Nat} : ∀ {σ : L2.St} {i : Nat}, i ∈ vs → i < σ.length → (wipe σ vs)[i]? = some none := by
  induction vs with
  | nil => intro σ i h; cases h
  | cons v vs ih =>
    intro σ i h hl
    show ((wipe σ vs).set v none)[i]? = some none
    by_cases hv : v = i
    · subst hv
      rw [List.getElem?_set_self (by rw [wipe_length]; exact hl)]
    · rw [List.getElem?_set_ne hv]
      exact ih ((List.mem_cons.mp h).resolve_left fun z => hv z.symm) hl
theorem wipe_off {vs : List Nat} : ∀ {σ : L2.St} {i : Nat}, i ∉ vs → (wipe σ vs)[i]? = σ[i]? := by
  induction vs with
  | nil => intro σ i _; rfl
  | cons v vs ih =>
    intro σ i h
    show ((wipe σ vs).set v none)[i]? = σ[i]?
    have h1 : v ≠ i := fun z => h (by rw [z]; exact List.mem_cons_self)
    rw [List.getElem?_set_ne h1]
    exact ih fun z => h (List.mem_cons_of_mem _ z)
theorem wipe_sets {vs : List Nat} : ∀ {us : List (Nat × V)} {σ : L2.St}, (∀ u ∈ us, u.1 ∈ vs) → wipe (setsV us σ) vs = wipe σ vs := by
  intro us
  induction us with
  | nil => intro σ _; rfl
  | cons u us ih =>
    intro σ h
    have h1 := ih (σ := σ.set u.1 (some u.2)) fun w hw => h w (List.mem_cons_of_mem _ hw)
    show wipe (setsV us (σ.set u.1 (some u.2))) vs = wipe σ vs
    rw [h1]
    have hm := h u List.mem_cons_self
    apply List.ext_getElem?
    intro i
    by_cases hi : i ∈ vs
    · by_cases hl : i < σ.length
      · rw [wipe_at hi hl, wipe_at hi (by rw [List.length_set]; exact hl)]
      · rw [List.getElem?_eq_none (by rw [wipe_length, List.length_set]; omega), List.getElem?_eq_none (by rw [wipe_length]; omega)]
    · rw [wipe_off hi, wipe_off hi, List.getElem?_set_ne fun z => hi (by rw [← z]; exact hm)]
theorem wipe_wipe {vs : List Nat} {σ : L2.St} : wipe (wipe σ vs) vs = wipe σ vs := by
  apply List.ext_getElem?
  intro i
  by_cases hi : i ∈ vs
  · by_cases hl : i < σ.length
    · rw [wipe_at hi hl, wipe_at hi (by rw [wipe_length]; exact hl)]
    · rw [List.getElem?_eq_none (by rw [wipe_length, wipe_length]; omega), List.getElem?_eq_none (by rw [wipe_length]; omega)]
  · rw [wipe_off hi, wipe_off hi]
theorem UpOk.fst {K : PySem.W.Frag} {H : Hp} {S : List Nat} : ∀ {us : List (Nat × V)} {ps : List (Nat × PyData)}, UpOk K H us ps → (∀ p ∈ ps, p.1 ∈ S) → ∀ u ∈ us, u.1 ∈ S
  | _, _, .nil, _ => fun u hu => by cases hu
  | _, _, .cons h t, hp => fun u hu => by
    rcases List.mem_cons.mp hu with rfl | hu
    · exact hp _ List.mem_cons_self
    · exact UpOk.fst t (fun p q => hp p (List.mem_cons_of_mem _ q)) u hu
/-- the block of a comprehension, whatever stands about it -/
abbrev BL (X : Cx) (sc : Scope) (J : Cx → Prop) : Prop := ∀ (s : Shared) (H : Hp) (C : Addr) (cl : List (Str × Addr)) (fp : List Addr), J (X.blk s H sc (compEnvC sc cl C X.env) fp)
def bG (X : Cx) (sc : Scope) (tg : Expr) : TG := fun v σ H Q => BL X sc fun Y => wG Y tg v σ H Q
def bE (X : Cx) (sc : Scope) (e : Expr) : TE := fun σ H Q => BL X sc fun Y => wE Y e σ H Q
def bT (X : Cx) (sc : Scope) (e : Expr) : TT := fun σ H Q => BL X sc fun Y => wT Y e σ H Q
theorem bG_ok {X : Cx} {sc : Scope} {tg : Expr} : BL X sc fun Y => PG Y tg (bG X sc tg) := fun s H C cl fp => ⟨fun pins s1 σ H1 v u Q I r h => (h s H C cl fp).it pins s1 u I r⟩
theorem bE_ok {X : Cx} {sc : Scope} {e : Expr} : BL X sc fun Y => PE Y e (bE X sc e) := fun s H C cl fp => ⟨fun pins s1 σ H1 Q I h => (h s H C cl fp).it pins s1 I⟩
theorem bT_ok {X : Cx} {sc : Scope} {e : Expr} : BL X sc fun Y => PT Y e (bT X sc e) := fun s H C cl fp => ⟨fun pins s1 σ H1 Q I h => (h s H C cl fp).it pins s1 I⟩
section
variable {X : Cx} {ρ : List Sl} {elt tg iter : Expr} {scope : Scope} {own : List (Str × Nat)} {pos : Pos} {ds : List PyData}
/-- the core: tt the tests -/
theorem lc_reads {wi : TI} {tt : TT} (hi : ∀ σ H, Env X.K H σ ρ → ∀ R : It → Hp → Prop, (∀ J H', Ex H H' → Walk J ds.length (fun H2 => Ex H' H2) (YD X.K ds) → R J H') → wi σ H R) (f : PyData → Option PyData) (hz : ds.length ≤ sizeLine)
    (turn : ∀ d, d ∈ ds → ∃ ps, (BL X scope fun Y => GD Y tg d ps) ∧ (∀ p ∈ ps, p.1 ∈ own.map (·.2)) ∧ ∃ b : Bool, (∀ σ H, Env X.K H σ (setsD ps (wipeS ρ (own.map (·.2)))) → ∀ Q : Bool → Hp → Prop, (∀ H', Ex H H' → Q b H') → tt σ H Q) ∧
      (b = false → f d = none) ∧ (b = true → ∃ y, f d = some y ∧ BL X scope fun Y => ED Y (setsD ps (wipeS ρ (own.map (·.2)))) elt y)) {σ : L2.St} {H : Hp} (ev : Env X.K H σ ρ) {Q : VK} (q : ∀ v H', Ex H H' → VOk X.K H H' v (.l (ds.filterMap f)) → Q v H') :
    tLc wi (bG X scope tg) tt (bE X scope elt) (own.map (·.2)) σ H Q := by
  refine hi σ H ev _ fun J H1 e1 w => fun D hD => ?_
  refine lc_it (Y := YD X.K ds) (n := ds.length) (G := fun H2 => Ex H1 H2) w (fun i H2 => Ex H1 H2 ∧ ∃ acc, H2 D = some (.lst acc) ∧ acc.length ≤ i ∧ DTs X.K H2 acc ((ds.take i).filterMap f)) ⟨Ex.up hD, [], upd_same, Nat.le_refl _, .nil⟩ (fun _ _ _ p => p.1) (fun i x H2 H3 hi p y => ?_) fun H2 p => ?_
  · obtain ⟨p1, acc, p2, p3, p4⟩ := p
    obtain ⟨e3, d, hd, hx⟩ := y
    obtain ⟨ps, g1, g2, b, t1, t2, t3⟩ := turn d (List.mem_of_getElem? hd)
    have step : (ds.take (i + 1)).filterMap f = (ds.take i).filterMap f ++ (f d).toList := by
      rw [List.take_add_one, hd]
      cases hf : f d <;> simp [hf]
    refine fun s0 H0 C cl fp => g1 s0 H0 C cl fp _ H3 x hx _ fun us ok => ?_
    refine ⟨(wipe_sets (ok.fst g2)).trans wipe_wipe, t1 _ H3 (ok.env ((ev.ex ((e1.tr p1).tr e3)).wipe _)) _ fun H4 e4 => ?_⟩
    cases b with
    | false =>
      refine ⟨(p1.tr e3).tr e4, acc, e4 _ _ (e3 _ _ p2), Nat.le_succ_of_le p3, ?_⟩
      rw [step, t2 rfl]
      simpa using p4.te (e3.tr e4).te
    | true =>
      obtain ⟨y, hy, te⟩ := t3 rfl
      refine fun s1 H1' C1 cl1 fp1 => te s1 H1' C1 cl1 fp1 _ H4 ((ok.env ((ev.ex ((e1.tr p1).tr e3)).wipe _)).ex e4) _ fun v H5 e5 o5 => ?_
      have hl := e5 _ _ (e4 _ _ (e3 _ _ p2))
      have tk : Tk H5 (upd H5 D (.lst (acc ++ [v]))) := Tk.upl hl
      refine ⟨acc, hl, Nat.lt_of_le_of_lt p3 (Nat.lt_of_lt_of_le hi hz), (((p1.tr e3).tr e4).tr e5).at_ hD, acc ++ [v], upd_same, by simp; omega, ?_⟩
      rw [step, hy]
      exact ((p4.te ((e3.tr e4).tr e5).te).app (.one o5)).te tk
  · obtain ⟨p1, acc, p2, p3, p4⟩ := p
    rw [List.take_length] at p4
    exact q _ H2 (e1.tr p1) ⟨D, acc, rfl, e1.back hD, p2, p4⟩
/-- [elt for tg in iter] -/
theorem ev_lc (g : PyData → PyData) (hi : IC X ρ tg iter ds) (hc : X.calm = true) (hN : X.N.Nodup) (ok : BlkOk X.N X.env.scope scope own) (hz : ds.length ≤ sizeLine)
    (turn : ∀ d, d ∈ ds → ∃ ps, (BL X scope fun Y => GD Y tg d ps) ∧ (∀ p ∈ ps, p.1 ∈ own.map (·.2)) ∧ BL X scope fun Y => ED Y (setsD ps (wipeS ρ (own.map (·.2)))) elt (g d)) (hs : ∀ x, foldedSetIterable iter X.env x = pure x := by intro _; rfl) :
    EV X ρ (.ListComp elt [⟨tg, iter, [], 0⟩] scope pos) (.l (ds.map g)) := fun σ H ev Q q => by
  obtain ⟨wi, h1, h2⟩ := hi
  refine wE_of (pe_lc (own := own) hc hN h1 ok bG_ok (fun _ _ _ _ _ => pts_nil) bE_ok hs) (lc_reads h2 (fun d => some (g d)) hz (fun d hd => ?_) ev (by simpa using q))
  obtain ⟨ps, a, b, c⟩ := turn d hd
  exact ⟨ps, a, b, true, fun _ H _ Q q => q H (Ex.rf H), (fun z => by cases z), fun _ => ⟨g d, rfl, c⟩⟩
theorem ev_lcE {es : List PyData} (g : PyData → PyData) (hi : IC X ρ tg iter ds) (hc : X.calm = true) (hN : X.N.Nodup) (ok : BlkOk X.N X.env.scope scope own) (hz : ds.length ≤ sizeLine) (he : ds.map g = es)
    (turn : ∀ d, d ∈ ds → ∃ ps, (BL X scope fun Y => GD Y tg d ps) ∧ (∀ p ∈ ps, p.1 ∈ own.map (·.2)) ∧ BL X scope fun Y => ED Y (setsD ps (wipeS ρ (own.map (·.2)))) elt (g d)) (hs : ∀ x, foldedSetIterable iter X.env x = pure x := by intro _; rfl) :
    EV X ρ (.ListComp elt [⟨tg, iter, [], 0⟩] scope pos) (.l es) := he ▸ ev_lc g hi hc hN ok hz turn hs
/-- [elt for tg in iter if c] -/
theorem ev_lcIf {c : Expr} (f : PyData → Option PyData) (hi : IC X ρ tg iter ds) (hc : X.calm = true) (hN : X.N.Nodup) (ok : BlkOk X.N X.env.scope scope own) (hz : ds.length ≤ sizeLine)
    (turn : ∀ d, d ∈ ds → ∃ ps, (BL X scope fun Y => GD Y tg d ps) ∧ (∀ p ∈ ps, p.1 ∈ own.map (·.2)) ∧ ∃ b : Bool, (BL X scope fun Y => TD Y (setsD ps (wipeS ρ (own.map (·.2)))) c b) ∧
      (b = false → f d = none) ∧ (b = true → ∃ y, f d = some y ∧ BL X scope fun Y => ED Y (setsD ps (wipeS ρ (own.map (·.2)))) elt y)) (hs : ∀ x, foldedSetIterable iter X.env x = pure x := by intro _; rfl) :
    EV X ρ (.ListComp elt [⟨tg, iter, [c], 0⟩] scope pos) (.l (ds.filterMap f)) := fun σ H ev Q q => by
  obtain ⟨wi, h1, h2⟩ := hi
  refine wE_of (pe_lc (own := own) hc hN h1 ok bG_ok (fun s H C cl fp => pts_one (bT_ok s H C cl fp)) bE_ok hs) (lc_reads h2 f hz (fun d hd => ?_) ev q)
  obtain ⟨ps, a, b, k, t1, t2, t3⟩ := turn d hd
  exact ⟨ps, a, b, k, fun σ H ev Q q s0 H0 C cl fp => t1 s0 H0 C cl fp σ H ev Q q, t2, t3⟩
end

/-! ### statements -/
/-- what is handed back -/
def RvOk (K : PySem.W.Frag) (B H : Hp) (v : V) : Sl → Prop
  | .no => True
  | .d x => DT K H v x
  | .l xs => ∃ a vs, v = .ref a ∧ H a = some (.lst vs) ∧ DTs K H vs xs ∧ B a = none
  | .r w => v = w
  | .w w W => v = w ∧ W.ok H ∧ ∀ a, W.F a → B a = none
  | .b _ _ => False
def RtOk (K : PySem.W.Frag) (B : Hp) (F : Addr → Prop) (H : Hp) (v : V) (x : Sl) (ρ : List Sl) : Prop := (∃ σ, EnvB K B F H σ ρ) ∧ RvOk K B H v x
theorem VOk.rv {K : PySem.W.Frag} {B H H' : Hp} {v : V} (e : Ex B H) : ∀ {x : Sl}, VOk K H H' v x → RvOk K B H' v x
  | .no, _ => trivial
  | .d _, h => h
  | .l _, ⟨p, vs, h, q, r, s⟩ => ⟨p, vs, h, r, s, e.back q⟩
  | .r _, h => h
  | .w _ _, ⟨h, q, r⟩ => ⟨h, q, fun a f => e.back (r a f)⟩
/-- from ρ the code goes on by N or hands back by R; what was there stays (but own things) -/
def SJ (X : Cx) (ρ : List Sl) (st : Stmt) (N : List Sl → Prop) (R : Sl → List Sl → Prop) : Prop := ∀ B F σ H, EnvB X.K B F H σ ρ → ∀ D : Ends, (∀ σ' H' ρ', EnvB X.K B F H' σ' ρ' → Tk H H' → N ρ' → D.nx σ' H') →
  (∀ v H' x ρ', Tk H H' → RtOk X.K B F H' v x ρ' → R x ρ' → D.rt v H') → wS X st D σ H
def SJs (X : Cx) (ρ : List Sl) (sts : List Stmt) (N : List Sl → Prop) (R : Sl → List Sl → Prop) : Prop := ∀ B F σ H, EnvB X.K B F H σ ρ → ∀ D : Ends, (∀ σ' H' ρ', EnvB X.K B F H' σ' ρ' → Tk H H' → N ρ' → D.nx σ' H') →
  (∀ v H' x ρ', Tk H H' → RtOk X.K B F H' v x ρ' → R x ρ' → D.rt v H') → wSs X sts D σ H
section
variable {X : Cx} {ρ : List Sl} {st : Stmt} {rest : List Stmt} {N M : List Sl → Prop} {R : Sl → List Sl → Prop} {e a b c : Expr} {pos : Pos}
theorem SJs.imp {M : List Sl → Prop} {R' : Sl → List Sl → Prop} (h : SJs X ρ rest M R') (h1 : ∀ ρ', M ρ' → N ρ') (h2 : ∀ d ρ', R' d ρ' → R d ρ') : SJs X ρ rest N R := fun B F σ H ev D k r =>
  h B F σ H ev D (fun σ' H' ρ' e t m => k σ' H' ρ' e t (h1 _ m)) fun v H' d e t o m => r v H' d e t o (h2 _ _ m)
theorem sjs_nil (h : N ρ) : SJs X ρ [] N R := fun B F σ H ev D k r => wSs_of pss_nil (k σ H ρ ev (Tk.rf H) h)
theorem sjs_cons (h : SJ X ρ st M R) (t : ∀ ρ', M ρ' → SJs X ρ' rest N R) : SJs X ρ (st :: rest) N R := fun B F σ H ev D k r =>
  wSs_of (pss_cons ps_w pss_w) (h B F σ H ev _ (fun σ' H' ρ' e1 t1 m => t ρ' m B F σ' H' e1 D (fun σ2 H2 ρ2 e2 t2 n => k σ2 H2 ρ2 e2 (t1.tr t2) n) fun v H2 d e2 t2 o q => r v H2 d e2 (t1.tr t2) o q) fun v H2 d e2 t2 o q => r v H2 d e2 t2 o q)
theorem sjs_one (h : SJ X ρ st N R) : SJs X ρ [st] N R := sjs_cons h fun ρ' m => sjs_nil m
theorem sj_ret {x : Sl} (h : EV X ρ e x) (hr : R x ρ) : SJ X ρ (.Return (some e) pos) N R := fun B F σ H ev D k r =>
  wS_of (ps_ret pe_w) (h σ H ev.env _ fun v H1 e1 o1 => r v H1 x ρ e1.te ⟨⟨σ, ev.grow e1⟩, VOk.rv ev.ex o1⟩ hr)
theorem sj_set (i : Nat) {x : Str} {y : Sl} {pos' : Pos} (h : EV X ρ e y) (hN : X.N.Nodup) (hi : X.N[i]? = some x := by rfl) (hx : Loc X.env.scope x := by first | exact Or.inl rfl | exact Or.inr rfl) (hs : swapsWith e (some (.Name x pos')) pos.line X.env = pure false := by rfl)
    (hf : X.fn x = true ∨ X.env.scope.names.lookup x = some .local := by first | exact .inl rfl | exact .inr rfl) (n : N (ρ.set i y)) : SJ X ρ (.Assign [.Name x pos'] e pos) N R := fun B F σ H ev D k r =>
  wS_of (ps_set hN hi hx pe_w hs hf) (h σ H ev.env _ fun v H1 e1 o1 => k _ H1 _ (ev.put e1 o1) e1.te n)
theorem sjs_set (i : Nat) {x : Str} {y : Sl} {pos' : Pos} (h : EV X ρ e y) (t : SJs X (ρ.set i y) rest N R) (hN : X.N.Nodup) (hi : X.N[i]? = some x := by rfl) (hx : Loc X.env.scope x := by first | exact Or.inl rfl | exact Or.inr rfl) (hs : swapsWith e (some (.Name x pos')) pos.line X.env = pure false := by rfl)
    (hf : X.fn x = true ∨ X.env.scope.names.lookup x = some .local := by first | exact .inl rfl | exact .inr rfl) : SJs X ρ (.Assign [.Name x pos'] e pos :: rest) N R :=
  sjs_cons (M := fun ρ' => ρ' = ρ.set i y) (sj_set i h hN hi hx hs hf rfl) fun ρ' m => by subst m; exact t
theorem sjs_ret {d : PyData} (h : ED X ρ e d) (hr : R (.d d) ρ) : SJs X ρ (.Return (some e) pos :: rest) N R := sjs_cons (M := fun _ => False) (sj_ret h hr) fun _ m => m.elim
theorem sjs_retx {x : Sl} (h : EV X ρ e x) (hr : R x ρ) : SJs X ρ (.Return (some e) pos :: rest) N R := sjs_cons (M := fun _ => False) (sj_ret h hr) fun _ m => m.elim
/-- a target of several names -/
theorem sjs_asg {tg : Expr} {d : PyData} {ps : List (Nat × PyData)} (h : ED X ρ e d) (g : GD X tg d ps) (t : SJs X (setsD ps ρ) rest N R) (hs : swapsWithSole [tg] e pos.line X.env = pure false := by rfl) (hw : swappedStores [tg] e X.env = pure none := by rfl)
    (h1 : (assignEach [tg] X.env).map (·.2) = [assign tg X.env] := by rfl) : SJs X ρ (.Assign [tg] e pos :: rest) N R :=
  sjs_cons (M := fun ρ' => ρ' = setsD ps ρ) (fun B F σ H ev D k r => wS_of (ps_asg pe_w pg_w hs hw h1) (h σ H ev.env _ fun v H1 e1 o1 => g σ H1 v o1 _ fun us ok => k _ H1 _ (ok.envB (ev.grow e1)) e1.te rfl)) fun ρ' m => by subst m; exact t
end
end TC
set_option Elab.async false
set_option linter.all false
set_option maxRecDepth 100000
set_option maxHeartbeats 4000000
/-! Data over the hand layer, part 4: more statements, own lists changed, defs. -/
namespace TC
open PySem L2
section
variable {X : Cx} {ρ : List Sl} {st : Stmt} {rest th el body : List Stmt} {N M : List Sl → Prop} {R : Sl → List Sl → Prop} {e a b c tg iter : Expr} {pos : Pos}
/-- x, y = a, b with plain local names -/
theorem sjs_par (i j : Nat) {x y : Str} {u v : Sl} {px py pt : Pos} {kt k2 pt2} (ha : EV X ρ a u) (hb : EV X ρ b v) (t : SJs X ((ρ.set i u).set j v) rest N R) (hc : X.calm = true) (hN : X.N.Nodup) (hi : X.N[i]? = some x := by rfl) (hj : X.N[j]? = some y := by rfl) (hij : i ≠ j := by decide)
    (hx : X.env.scope.names.lookup x = some .local := by rfl) (hy : X.env.scope.names.lookup y = some .local := by rfl) (he : starEach [a, b] X.env = (false, eval a X.env) :: starEach [b] X.env := by rfl) (he2 : starEach [b] X.env = (false, eval b X.env) :: starEach [] X.env := by rfl)
    (hw : swappedStores [.Tuple [.Name x px, .Name y py] kt pt] (.Tuple [a, b] k2 pt2) X.env = pure (some [x, y]) := by rfl) (hs : swapsWithSole [.Tuple [.Name x px, .Name y py] kt pt] (.Tuple [a, b] k2 pt2) pos.line X.env = pure false := by rfl) :
    SJs X ρ (.Assign [.Tuple [.Name x px, .Name y py] kt pt] (.Tuple [a, b] k2 pt2) pos :: rest) N R :=
  sjs_cons (M := fun ρ' => ρ' = (ρ.set i u).set j v) (fun B F σ H ev D k r => wS_of (ps_par hc hN hi hj hij hx hy (pa_cons pe_w (pa_cons pe_w pa_nil he2) he) hw hs) (ha σ H ev.env _ fun v1 H1 e1 o1 => hb σ H1 (ev.env.ex e1) _ fun v2 H2 e2 o2 =>
    ⟨v1, v2, rfl, k _ H2 _ ((ev.put e1 o1).put e2 o2) (e1.tr e2).te rfl⟩)) fun ρ' m => by subst m; exact t
theorem sjs_par3 (i j l : Nat) {x y z : Str} {u v w : Sl} {px py pz pt : Pos} {kt k2 pt2} (ha : EV X ρ a u) (hb : EV X ρ b v) (hd : EV X ρ c w) (t : SJs X (((ρ.set i u).set j v).set l w) rest N R) (hc : X.calm = true) (hN : X.N.Nodup) (hi : X.N[i]? = some x := by rfl) (hj : X.N[j]? = some y := by rfl) (hl : X.N[l]? = some z := by rfl)
    (hij : i ≠ j := by decide) (hil : i ≠ l := by decide) (hjl : j ≠ l := by decide) (hx : X.env.scope.names.lookup x = some .local := by rfl) (hy : X.env.scope.names.lookup y = some .local := by rfl) (hz : X.env.scope.names.lookup z = some .local := by rfl)
    (he : starEach [a, b, c] X.env = (false, eval a X.env) :: starEach [b, c] X.env := by rfl) (he2 : starEach [b, c] X.env = (false, eval b X.env) :: starEach [c] X.env := by rfl) (he3 : starEach [c] X.env = (false, eval c X.env) :: starEach [] X.env := by rfl)
    (hw : swappedStores [.Tuple [.Name x px, .Name y py, .Name z pz] kt pt] (.Tuple [a, b, c] k2 pt2) X.env = pure (some [x, y, z]) := by rfl) (hs : swapsWithSole [.Tuple [.Name x px, .Name y py, .Name z pz] kt pt] (.Tuple [a, b, c] k2 pt2) pos.line X.env = pure false := by rfl) :
    SJs X ρ (.Assign [.Tuple [.Name x px, .Name y py, .Name z pz] kt pt] (.Tuple [a, b, c] k2 pt2) pos :: rest) N R :=
  sjs_cons (M := fun ρ' => ρ' = ((ρ.set i u).set j v).set l w) (fun B F σ H ev D k r => wS_of (ps_par3 hc hN hi hj hl hij hil hjl hx hy hz (pa_cons pe_w (pa_cons pe_w (pa_cons pe_w pa_nil he3) he2) he) hw hs)
    (ha σ H ev.env _ fun v1 H1 e1 o1 => hb σ H1 (ev.env.ex e1) _ fun v2 H2 e2 o2 => hd σ H2 (ev.env.ex (e1.tr e2)) _ fun v3 H3 e3 o3 =>
      ⟨v1, v2, v3, rfl, k _ H3 _ (((ev.put e1 o1).put e2 o2).put e3 o3) ((e1.tr e2).tr e3).te rfl⟩)) fun ρ' m => by subst m; exact t
/-! ### if -/
theorem sj_if {k : Bool} (h : TD X ρ c k) (h1 : k = true → SJs X ρ th N R) (h2 : k = false → SJs X ρ el N R) : SJ X ρ (.If c th el pos) N R := fun B F σ H ev D n r =>
  wS_of (ps_if pt_w pss_w pss_w) (h σ H ev.env _ fun H1 e1 => by
    cases k with
    | true => exact h1 rfl B F σ H1 (ev.grow e1) D (fun σ2 H2 ρ2 e2 t2 m => n σ2 H2 ρ2 e2 (e1.te.tr t2) m) fun v H2 d e2 t2 o q => r v H2 d e2 (e1.te.tr t2) o q
    | false => exact h2 rfl B F σ H1 (ev.grow e1) D (fun σ2 H2 ρ2 e2 t2 m => n σ2 H2 ρ2 e2 (e1.te.tr t2) m) fun v H2 d e2 t2 o q => r v H2 d e2 (e1.te.tr t2) o q)
theorem sjs_skip (h : TD X ρ c false) (t : SJs X ρ rest N R) : SJs X ρ (.If c th [] pos :: rest) N R :=
  sjs_cons (M := fun ρ' => ρ' = ρ) (sj_if h (fun z => nomatch z) fun _ => sjs_nil rfl) fun ρ' m => by subst m; exact t
theorem sjs_take {M : List Sl → Prop} (h : TD X ρ c true) (h1 : SJs X ρ th M R) (t : ∀ ρ', M ρ' → SJs X ρ' rest N R) : SJs X ρ (.If c th el pos :: rest) N R := sjs_cons (sj_if h (fun _ => h1) fun z => nomatch z) t
theorem sjs_else {M : List Sl → Prop} (h : TD X ρ c false) (h1 : SJs X ρ el M R) (t : ∀ ρ', M ρ' → SJs X ρ' rest N R) : SJs X ρ (.If c th el pos :: rest) N R := sjs_cons (sj_if h (fun z => nomatch z) fun _ => h1) t
/-- the branch hands back -/
theorem sjs_takeR (h : TD X ρ c true) (h1 : SJs X ρ th (fun _ => False) R) : SJs X ρ (.If c th el pos :: rest) N R := sjs_take h h1 fun _ m => m.elim
theorem sjs_elseR (h : TD X ρ c false) (h1 : SJs X ρ el (fun _ => False) R) : SJs X ρ (.If c th el pos :: rest) N R := sjs_else h h1 fun _ m => m.elim
theorem sjs_expr {d : PyData} (h : ED X ρ e d) (t : SJs X ρ rest N R) (hs : swapsWith e none pos.line X.env = pure false := by rfl) : SJs X ρ (.Expr e pos :: rest) N R :=
  sjs_cons (M := fun ρ' => ρ' = ρ) (fun B F σ H ev D k r => wS_of (ps_expr pe_w hs) (h σ H ev.env _ fun v H1 e1 o1 => k σ H1 ρ (ev.grow e1) e1.te rfl)) fun ρ' m => by subst m; exact t
theorem sjs_aug (i : Nat) {x : Str} {pos' : Pos} {n m : Int} (h0 : ρ[i]? = some (.d (.int n)) := by rfl) (h : ED X ρ e (.int m)) (t : SJs X (ρ.set i (.d (.int (n + m)))) rest N R) (hN : X.N.Nodup) (hi : X.N[i]? = some x := by rfl) (hx : Loc X.env.scope x := by first | exact Or.inl rfl | exact Or.inr rfl)
    (hf : X.fn x = true ∨ X.env.scope.names.lookup x = some .local := by first | exact .inl rfl | exact .inr rfl) : SJs X ρ (.AugAssign (.Name x pos') .Add e pos :: rest) N R :=
  sjs_cons (M := fun ρ' => ρ' = ρ.set i (.d (.int (n + m)))) (fun B F σ H ev D k r => wS_of (ps_aug hN hi hx pe_w ip_add hf) (by
    obtain ⟨v, e0, q⟩ := ev.env.sl i _ h0
    refine ⟨v, e0, h σ H ev.env _ fun w H1 e1 o1 => ⟨n, m, q.of_int, (show DT X.K H1 w (.int m) from o1).of_int, k _ H1 _ (ev.put (x := .d (.int (n + m))) e1 (.int _)) e1.te rfl⟩⟩)) fun ρ' m => by subst m; exact t
/-! ### loops -/
theorem sj_for {ds : List PyData} (h : IT X ρ tg iter ds) (I : Nat → List Sl → Prop) (h0 : I 0 ρ) (turn : ∀ i d ρ1, ds[i]? = some d → I i ρ1 → ∃ ps, GD X tg d ps ∧ SJs X (setsD ps ρ1) body (I (i + 1)) R) (done : ∀ ρ1, I ds.length ρ1 → N ρ1)
    (hc : X.calm = true) (hx : PassesOwn (model X.prog X.w) X.A X.env X.xe) (hs : ∀ x, foldedSetIterable iter X.env x = pure x := by intro _; rfl) : SJ X ρ (.For tg iter body [] pos) N R := fun B F σ H ev D k r => by
  obtain ⟨wi, p, q⟩ := h
  refine wS_of (ps_for hx hc p pg_w pss_w hs) (q σ H ev.env _ fun J H1 e1 w => ?_)
  refine for_it w (fun i σ2 H2 => Tk H1 H2 ∧ ∃ ρ2, EnvB X.K B F H2 σ2 ρ2 ∧ I i ρ2) ⟨Tk.rf _, ρ, ev.grow e1, h0⟩ (fun _ _ _ _ z => z.1) (fun i x σ2 H2 H3 hi z y => ?_) fun σ2 H2 z => ?_
  · obtain ⟨t2, ρ2, ev2, I2⟩ := z
    obtain ⟨e3, d, hd, hx⟩ := y
    obtain ⟨ps, g, s⟩ := turn i d ρ2 hd I2
    refine g σ2 H3 x hx _ fun us ok => ?_
    refine s B F _ H3 (ok.envB (ev2.grow e3)) _ (fun σ4 H4 ρ4 ev4 t4 I4 => ⟨(t2.tr e3.te).tr t4, ρ4, ev4, I4⟩) fun v H4 d4 e4 t4 o4 q4 => r v H4 d4 e4 (((e1.te.tr t2).tr e3.te).tr t4) o4 q4
  · obtain ⟨t2, ρ2, ev2, I2⟩ := z
    exact k σ2 H2 ρ2 ev2 (e1.te.tr t2) (done ρ2 I2)
theorem sj_while (I : Nat → List Sl → Prop) {m0 : Nat} (h0 : I m0 ρ) (turn : ∀ m ρ1, I m ρ1 → ∃ k : Bool, TD X ρ1 c k ∧ (k = true → SJs X ρ1 body (fun ρ2 => ∃ m', m' < m ∧ I m' ρ2) R) ∧ (k = false → N ρ1))
    (hx : PassesOwn (model X.prog X.w) X.A X.env X.xe) : SJ X ρ (.While c body [] pos) N R := fun B F σ H ev D k r => by
  refine wS_of (ps_while hx pt_w pss_w) ⟨fun m σ2 H2 => Tk H H2 ∧ ∃ ρ2, EnvB X.K B F H2 σ2 ρ2 ∧ I m ρ2, ⟨m0, Tk.rf _, ρ, ev, h0⟩, fun m σ2 H2 z => ?_⟩
  obtain ⟨t2, ρ2, ev2, I2⟩ := z
  obtain ⟨b, t, h1, h2⟩ := turn m ρ2 I2
  refine t σ2 H2 ev2.env _ fun H3 e3 => ?_
  cases b with
  | true => exact ⟨fun σ4 H4 => Tk H H4 ∧ ∃ ρ4, EnvB X.K B F H4 σ4 ρ4 ∧ ∃ m', m' < m ∧ I m' ρ4, fun σ4 H4 ⟨t4, ρ4, ev4, m', hm, I4⟩ => ⟨m', hm, t4, ρ4, ev4, I4⟩,
      h1 rfl B F σ2 H3 (ev2.grow e3) _ (fun σ4 H4 ρ4 ev4 t4 I4 => ⟨(t2.tr e3.te).tr t4, ρ4, ev4, I4⟩) fun v H4 d4 e4 t4 o4 q4 => r v H4 d4 e4 ((t2.tr e3.te).tr t4) o4 q4⟩
  | false => exact k σ2 H3 ρ2 (ev2.grow e3) (t2.tr e3.te) (h2 rfl)
/-! ### own lists changed -/
theorem EnvB.mut {K : PySem.W.Frag} {B : Hp} {F : Addr → Prop} {H : Hp} {σ : L2.St} {ρ : List Sl} {i : Nat} {p : Addr} {xs ys : List PyData} {vs ws : List V} (h : EnvB K B F H σ ρ) (hi : ρ[i]? = some (.l xs)) (hp : σ[i]? = some (some (.ref p))) (hl : H p = some (.lst vs)) (q : DTs K H ws ys) :
    EnvB K B F (upd H p (.lst ws)) σ (ρ.set i (.l ys)) ∧ Tk H (upd H p (.lst ws)) := by
  have tk : Tk H (upd H p (.lst ws)) := Tk.upl hl
  obtain ⟨o1, o2, o3⟩ := h.own i (.l xs) p hi hp
  have hiρ : i < ρ.length := (List.getElem?_eq_some_iff.mp hi).1
  have isl : ∀ {k : Nat} {z : Sl} {a : Addr}, (ρ.set i (.l ys))[k]? = some z → Ft σ k z a → ∃ z', ρ[k]? = some z' ∧ Ft σ k z' a := fun {k z a} e f => by
    by_cases hk : i = k
    · subst hk
      rw [List.getElem?_set_self hiρ] at e
      cases e
      exact ⟨.l xs, hi, f⟩
    · rw [List.getElem?_set_ne hk] at e; exact ⟨_, e, f⟩
  refine ⟨⟨⟨by rw [List.length_set]; exact h.env.len, fun j x e => ?_⟩, h.ex.at_ o1, fun a f => ?_, fun j zs a e1 e2 => ?_, fun j v W a e1 f => ?_⟩, tk⟩
  · by_cases hj : i = j
    · subst hj
      rw [List.getElem?_set_self hiρ] at e
      cases e
      exact ⟨p, ws, hp, upd_same, q.te tk⟩
    · rw [List.getElem?_set_ne hj] at e
      have z := h.env.sl j x e
      have off := o3 j x (Ne.symm hj) e
      cases x with
      | no => exact trivial
      | d y => obtain ⟨v, z1, z2⟩ := z; exact ⟨v, z1, z2.te tk⟩
      | r v => exact z
      | l zs =>
        obtain ⟨a, us, z1, z2, z3⟩ := z
        exact ⟨a, us, z1, by rw [upd_ne fun w => off (by rw [← w]; exact z1)]; exact z2, z3.te tk⟩
      | w v W => exact ⟨z.1, W.stay H _ z.2 (fun a f => upd_ne fun w => off (by rw [← w]; exact f)) tk⟩
      | b v W => exact ⟨z.1, W.stay H _ z.2 (fun a f => upd_ne fun w => by
          obtain ⟨o, q⟩ := h.bor j v W a e f
          rw [w, o1] at q; cases q) tk⟩
  · obtain ⟨o, z⟩ := h.dom a f
    exact ⟨o, by rw [upd_ne fun w => o2 (by rw [← w]; exact f)]; exact z⟩
  · obtain ⟨z', e3, f3⟩ := isl e1 e2
    obtain ⟨a1, a2, a3⟩ := h.own j z' a e3 f3
    exact ⟨a1, a2, fun k us hk e4 e5 => by
      obtain ⟨us', e6, f6⟩ := isl e4 e5
      exact a3 k us' hk e6 f6⟩
  · by_cases hj : i = j
    · subst hj
      rw [List.getElem?_set_self hiρ] at e1
      cases e1
    · rw [List.getElem?_set_ne hj] at e1
      exact h.bor j v W a e1 f
/-- a world is changed -/
theorem EnvB.mutW {K : PySem.W.Frag} {B : Hp} {F : Addr → Prop} {H H' : Hp} {σ : L2.St} {ρ : List Sl} {i : Nat} {v : V} {W W' : Wld} (h : EnvB K B F H σ ρ) (hi : ρ[i]? = some (.w v W)) (he : ∀ a o, H a = some o → ¬ W.F a → H' a = some o) (tk : Tk H H') (ok : W'.ok H') (hF : ∀ a, W'.F a → W.F a ∨ H a = none) :
    EnvB K B F H' σ (ρ.set i (.w v W')) := by
  have hiρ : i < ρ.length := (List.getElem?_eq_some_iff.mp hi).1
  have notF : ∀ {j : Nat} {x : Sl} {a : Addr}, j ≠ i → ρ[j]? = some x → Ft σ j x a → ¬ W.F a := fun hj e f w => (h.own i (.w v W) _ hi w).2.2 _ _ hj e f
  have Bn : ∀ a, W'.F a → B a = none := fun a f => (hF a f).elim (fun w => (h.own i (.w v W) a hi w).1) fun n => h.ex.back n
  refine ⟨⟨by rw [List.length_set]; exact h.env.len, fun j x e => ?_⟩, fun a o e => he a o (h.ex a o e) (fun w => by rw [(h.own i (.w v W) a hi w).1] at e; cases e), fun a f => ?_, fun j z a e1 e2 => ?_, fun j v2 W2 a e1 f => ?_⟩
  · by_cases hj : i = j
    · subst hj
      rw [List.getElem?_set_self hiρ] at e
      cases e
      exact ⟨(h.env.sl i _ hi).1, ok⟩
    · rw [List.getElem?_set_ne hj] at e
      have z := h.env.sl j x e
      cases x with
      | no => exact trivial
      | d y => obtain ⟨v, z1, z2⟩ := z; exact ⟨v, z1, z2.te tk⟩
      | r v => exact z
      | l zs =>
        obtain ⟨a, us, z1, z2, z3⟩ := z
        exact ⟨a, us, z1, he a _ z2 (notF (Ne.symm hj) e z1), z3.te tk⟩
      | w v2 W2 => exact ⟨z.1, W2.stay H _ z.2 (fun a f => by
          obtain ⟨o, q⟩ := W2.dom H a z.2 f
          rw [q, he a o q (notF (Ne.symm hj) e f)]) tk⟩
      | b v2 W2 => exact ⟨z.1, W2.stay H _ z.2 (fun a f => by
          obtain ⟨o, q⟩ := h.bor j v2 W2 a e f
          rw [h.ex a o q, he a o (h.ex a o q) fun w => by rw [(h.own i (.w v W) a hi w).1] at q; cases q]) tk⟩
  · obtain ⟨o, z⟩ := h.dom a f
    exact ⟨o, he a o z fun w => (h.own i (.w v W) a hi w).2.1 f⟩
  · by_cases hj : i = j
    · subst hj
      rw [List.getElem?_set_self hiρ] at e1
      cases e1
      refine ⟨Bn a e2, fun f => ?_, fun k y hk e3 e4 => ?_⟩
      · obtain ⟨o, z⟩ := h.dom a f
        rcases hF a e2 with w | n
        · exact (h.own i (.w v W) a hi w).2.1 f
        · rw [n] at z; cases z
      · rw [List.getElem?_set_ne (Ne.symm hk)] at e3
        rcases hF a e2 with w | n
        · exact (h.own i (.w v W) a hi w).2.2 k y hk e3 e4
        · obtain ⟨o, z⟩ := Ft.there (h.env.sl k y e3) e4
          rw [n] at z; cases z
    · rw [List.getElem?_set_ne hj] at e1
      obtain ⟨a1, a2, a3⟩ := h.own j z a e1 e2
      refine ⟨a1, a2, fun k y hk e3 e4 => ?_⟩
      by_cases hk2 : i = k
      · subst hk2
        rw [List.getElem?_set_self hiρ] at e3
        cases e3
        rcases hF a e4 with w | n
        · exact notF (Ne.symm hj) e1 e2 w
        · obtain ⟨o, q⟩ := Ft.there (h.env.sl j z e1) e2
          rw [n] at q; cases q
      · rw [List.getElem?_set_ne hk2] at e3
        exact a3 k y hk e3 e4
  · by_cases hj : i = j
    · subst hj
      rw [List.getElem?_set_self hiρ] at e1
      cases e1
    · rw [List.getElem?_set_ne hj] at e1
      exact h.bor j v2 W2 a e1 f
theorem slot_name (i : Nat) {x : Str} (hN : X.N[i]? = some x := by rfl) (hv : Vis X.env.scope x := by first | exact Or.inl rfl | exact Or.inr (Or.inl rfl) | exact Or.inr (Or.inr rfl)) (hd : (x == ("__debug__" : Str)) = false := by decide) (hcd : (x == ("__classdict__" : Str)) = false := by decide) : PE X (.Name x pos) (tVar i) := pe_var hN hv hd hcd
theorem sjs_app (i : Nat) {x : Str} {p2 : Pos} {apos cpos : Pos} {ds : List PyData} {d : PyData} (h : ED X ρ e d) (h0 : ρ[i]? = some (.l ds)) (hz : ds.length < sizeLine) (t : SJs X (ρ.set i (.l (ds ++ [d]))) rest N R) (hv : PE X (.Name x p2) (tVar i))
    (hs : swapsWith (.Call (.Attribute (.Name x p2) "append" apos) [e] [] cpos) none pos.line X.env = pure false := by rfl) (hline : (apos.endLine == cpos.line) = true := by rfl) (he : starEach [e] X.env = (false, eval e X.env) :: starEach [] X.env := by rfl)
    (hfew : ((backTo cpos (starEach [e] X.env)).all (fun x => !x.1) && (backToKw cpos (keywordEach [] X.env)).all (fun x => x.1.isSome) && decide ([e].length + ([] : List Keyword).length + (if ([] : List Keyword).isEmpty then 0 else 1) < 30)) = true := by rfl)
    (hbase : attributeBase (.Name x p2) "append" X.env (eval (.Name x p2) X.env) = eval (.Name x p2) X.env := by rfl) : SJs X ρ (.Expr (.Call (.Attribute (.Name x p2) "append" apos) [e] [] cpos) pos :: rest) N R :=
  sjs_cons (M := fun ρ' => ρ' = ρ.set i (.l (ds ++ [d]))) (fun B F σ H ev D k r => wS_of (ps_expr (pe_bm PySem.F.plainAttrs_list PySem.F.slot_list_append PySem.F.type_list_append mt_append hv (pa_cons pe_w pa_nil he) hbase hfew hline he) hs) (by
    obtain ⟨p, vs, e1, e2, e3⟩ := ev.env.sl i _ h0
    refine ⟨_, e1, .inl ⟨rfl, vs, .of e2⟩, h σ H ev.env _ fun w H1 x1 o1 => ?_⟩
    have e4 := x1 _ _ e2
    obtain ⟨m1, m2⟩ := (ev.grow x1).mut h0 e1 e4 ((e3.te x1.te).app (.one o1))
    exact ⟨p, vs, w, rfl, rfl, e4, by rw [e3.len]; exact hz, k σ _ _ m1 (x1.te.tr m2) rfl⟩)) fun ρ' m => by subst m; exact t
theorem sjs_ext (i : Nat) {x : Str} {p2 : Pos} {apos cpos : Pos} {ds es : List PyData} (h : EV X ρ e (.l es)) (h0 : ρ[i]? = some (.l ds)) (hz : ds.length + es.length ≤ sizeLine) (t : SJs X (ρ.set i (.l (ds ++ es))) rest N R) (hv : PE X (.Name x p2) (tVar i))
    (hs : swapsWith (.Call (.Attribute (.Name x p2) "extend" apos) [e] [] cpos) none pos.line X.env = pure false := by rfl) (hline : (apos.endLine == cpos.line) = true := by rfl) (he : starEach [e] X.env = (false, eval e X.env) :: starEach [] X.env := by rfl)
    (hfew : ((backTo cpos (starEach [e] X.env)).all (fun x => !x.1) && (backToKw cpos (keywordEach [] X.env)).all (fun x => x.1.isSome) && decide ([e].length + ([] : List Keyword).length + (if ([] : List Keyword).isEmpty then 0 else 1) < 30)) = true := by rfl)
    (hbase : attributeBase (.Name x p2) "extend" X.env (eval (.Name x p2) X.env) = eval (.Name x p2) X.env := by rfl) : SJs X ρ (.Expr (.Call (.Attribute (.Name x p2) "extend" apos) [e] [] cpos) pos :: rest) N R :=
  sjs_cons (M := fun ρ' => ρ' = ρ.set i (.l (ds ++ es))) (fun B F σ H ev D k r => wS_of (ps_expr (pe_bm PySem.F.plainAttrs_list PySem.F.slot_list_extend PySem.F.type_list_extend mt_extend hv (pa_cons pe_w pa_nil he) hbase hfew hline he) hs) (by
    obtain ⟨p, vs, e1, e2, e3⟩ := ev.env.sl i _ h0
    refine ⟨_, e1, .inl ⟨rfl, vs, .of e2⟩, h σ H ev.env _ fun w H1 x1 ⟨p', ws, o1, _, o3, o4⟩ => ?_⟩
    have e4 := x1 _ _ e2
    obtain ⟨m1, m2⟩ := (ev.grow x1).mut h0 e1 e4 ((e3.te x1.te).app o4)
    exact ⟨p, p', vs, ws, rfl, by rw [o1], e4, o3, by rw [e3.len, o4.len]; exact hz, k σ _ _ m1 (x1.te.tr m2) rfl⟩)) fun ρ' m => by subst m; exact t
/-- xs[j] = e -/
theorem sjs_put (i : Nat) {x : Str} {p2 p3 : Pos} {ds : List PyData} {d : PyData} {j : Nat} (h : ED X ρ e d) (hj : ED X ρ a (.int (j : Int))) (h0 : ρ[i]? = some (.l ds)) (hl : j < ds.length) (t : SJs X (ρ.set i (.l (ds.set j d))) rest N R) (hv : PE X (.Name x p2) (tVar i))
    (ha : ∀ v, assign (.Subscript (.Name x p2) a p3) X.env v = (do
      let ov ← holding [v] (eval (.Name x p2) X.env)
      let iv ← holding [v, ov] (eval a X.env)
      standAt p3
      holding [v, ov, iv] (setItem ov iv v)
      release [v, ov, iv] []) := by intro _; rfl)
    (hs : swapsWithSole [.Subscript (.Name x p2) a p3] e pos.line X.env = pure false := by rfl) (hw : swappedStores [.Subscript (.Name x p2) a p3] e X.env = pure none := by rfl) (h1 : (assignEach [.Subscript (.Name x p2) a p3] X.env).map (·.2) = [assign (.Subscript (.Name x p2) a p3) X.env] := by rfl) :
    SJs X ρ (.Assign [.Subscript (.Name x p2) a p3] e pos :: rest) N R :=
  sjs_cons (M := fun ρ' => ρ' = ρ.set i (.l (ds.set j d))) (fun B F σ H ev D k r => wS_of (ps_asg pe_w (pg_sub hv pe_w set_list ha) hs hw h1) (h σ H ev.env _ fun w H1 x1 o1 => by
    obtain ⟨p, vs, e1, e2, e3⟩ := (ev.grow x1).env.sl i _ h0
    refine ⟨_, e1, hj σ H1 (ev.grow x1).env _ fun w2 H2 x2 o2 => ?_⟩
    have e4 := x2 _ _ e2
    obtain ⟨m1, m2⟩ := ((ev.grow x1).grow x2).mut h0 e1 e4 ((e3.te x2.te).set ((show DT X.K H1 w d from o1).te x2.te) j)
    have hlv : j < vs.length := by rw [e3.len]; exact hl
    refine ⟨p, vs, (j : Int), j, rfl, (show DT X.K H2 w2 (.int (j : Int)) from o2).of_int, e4, ?_, k σ _ _ m1 ((x1.tr x2).te.tr m2) rfl⟩
    unfold ixN
    rw [if_pos (by omega), if_pos (by omega), Int.toNat_natCast])) fun ρ' m => by subst m; exact t
end

/-! ### defs -/
/-- the context of a def's body that lets nothing out -/
abbrev BX (P : Program) (w : World) (K : PySem.W.Frag) (mg : Str → Option Value) (base : Heap) (N : List Str) (qual : Str) (scope : Scope) (f : Addr) (cdv : Value) (A : Around) (outer : List PySem.Env) (s : Shared) (H : Hp) (E : XK) : Cx := (cxOf CX0 P w K mg base N qual scope f cdv A outer s H E).nox
theorem start_env {K : PySem.W.Frag} {H : Hp} {N : List Str} {vs : List V} {ds : List PyData} (h : DTs K H vs ds) (hl : ds.length ≤ N.length) : EnvB K H (fun _ => False) H (L2.start N vs) (ds.map .d ++ List.replicate (N.length - ds.length) .no) := by
  refine ⟨⟨by simp [L2.start, h.len], fun i x e => ?_⟩, Ex.rf H, fun _ f => f.elim, fun i xs a e q => ?_, fun i v W a e q => ?_⟩
  · by_cases hi : i < ds.length
    · rw [List.getElem?_append_left (by simpa using hi), List.getElem?_map, List.getElem?_eq_getElem hi] at e
      cases e
      obtain ⟨v, h1, h2⟩ := h.at_ (List.getElem?_eq_getElem hi)
      refine ⟨v, ?_, h2⟩
      unfold L2.start
      rw [List.getElem?_append_left (by simpa [h.len] using hi), List.getElem?_map, h1]
      rfl
    · rw [List.getElem?_append_right (by simpa using hi)] at e
      obtain ⟨e1, e2⟩ := List.getElem?_eq_some_iff.mp e
      rw [List.getElem_replicate] at e2
      subst e2
      exact trivial
  · by_cases hi : i < ds.length
    · rw [List.getElem?_append_left (by simpa using hi), List.getElem?_map, List.getElem?_eq_getElem hi] at e
      cases e
      exact q.elim
    · rw [List.getElem?_append_right (by simpa using hi)] at e
      obtain ⟨e1, e2⟩ := List.getElem?_eq_some_iff.mp e
      rw [List.getElem_replicate] at e2
      subst e2
      exact q.elim
  · by_cases hi : i < ds.length
    · rw [List.getElem?_append_left (by simpa using hi), List.getElem?_map, List.getElem?_eq_getElem hi] at e
      cases e
    · rw [List.getElem?_append_right (by simpa using hi)] at e
      obtain ⟨e1, e2⟩ := List.getElem?_eq_some_iff.mp e
      rw [List.getElem_replicate] at e2
      cases e2
/-- what stands of a def behind the top, under the module's name g -/
structure Own (K : PySem.W.Frag) (mg : Str → Option Value) (g : Str) (d : Str × Arguments × List Stmt × Scope) (dvs : List V) : Prop where
  it : ∃ (f : Addr) (fd : FuncData), FunD K d.1 d.1 d.2.1 d.2.2.1 d.2.2.2 dvs [] f fd ∧ mg g = some (.ref f)
abbrev defD (x : Str) (st : Stmt) : Str × Arguments × List Stmt × Scope := (x, defArgs st, defBody st, defScope st)
section
variable {P : Program} {w : World} {K : PySem.W.Frag} {mg : Str → Option Value} {base : Heap}
theorem cal_pure {g x : Str} {st : Stmt} {N ps : List Str} {k : Nat} {R : List PyData → PyData → Prop} (O : Own K mg g (defD x st) []) (S : FnScope N ps (defScope st)) (len : ∀ ds d, R ds d → ds.length = ps.length) (hn : ps.length ≤ N.length)
    (hb : ∀ (kV doc pm : Value) (an : Option Addr) (cdv ct : Value) (us : List Value), us.length = ps.length → bindArgs (PySem.W.fnOf x x (defArgs st) (defBody st) (defScope st) .none kV doc pm an cdv ct) ⟨us, []⟩ = pure (ps.zip us))
    (body : ∀ (f : Addr) (cdv : Value) (A : Around) (outer : List PySem.Env) (s : Shared) (H : Hp) (E : XK), Room k (A.deeper (PyProof.Rows.envOfC x (defScope st) s.heap.objs.size f cdv)) → ∀ ds d, R ds d →
      SJs (BX P w K mg base N x (defScope st) f cdv A outer s H E) (ds.map .d ++ List.replicate (N.length - ds.length) .no) (defBody st) (fun _ => d = .none) (fun d' _ => d' = .d d)) : Cal P w K mg base (k + 1) g (PSp K R) [] := by
  obtain ⟨f, fd, F, m⟩ := O.it
  refine ⟨f, fd, ps, [], m, F.kp, F.ok (N := N) S (fun vs H Q E h => ?_) (fun cdv A outer s H vs Q E hr h => ?_), F.bindsN hb, .nil⟩
  · obtain ⟨ds, d, h1, h2, _⟩ := h
    rw [h1.len]
    exact len _ _ h2
  · obtain ⟨ds, d, h1, h2, h3⟩ := h
    refine ⟨_, PSs.nox pss_w, ?_⟩
    have hl : ds.length ≤ N.length := by rw [len _ _ h2]; exact hn
    refine body f cdv A outer s H E hr ds d h2 H (fun _ => False) _ H (start_env h1 hl) _ (fun σ' H' ρ' e t n => ?_) fun v H' d' ρ' t o q => ?_
    · have z := h3 .non H' e.ex (by rw [n]; exact .non)
      exact z
    · subst q
      exact h3 v H' (o.1.elim fun _ z => z.ex) o.2
/-- slots of things that are nobody's own -/
def Pln : Sl → Prop
  | .l _ => False
  | .w _ _ => False
  | _ => True
theorem start_envA {K : PySem.W.Frag} {H : Hp} {N : List Str} {vs : List V} {xs : List Sl} (h : SlsOk K H vs xs) (hp : ∀ x ∈ xs, Pln x) (hl : xs.length ≤ N.length) : EnvB K H (fun _ => False) H (L2.start N vs) (xs ++ List.replicate (N.length - xs.length) .no) := by
  refine ⟨⟨by simp [L2.start, h.len], fun i x e => ?_⟩, Ex.rf H, fun _ f => f.elim, fun i x a e q => ?_, fun i v W a e q => ?_⟩
  · by_cases hi : i < xs.length
    · rw [List.getElem?_append_left hi] at e
      obtain ⟨v, h1, h2⟩ := h.at_ e
      have z : (L2.start N vs)[i]? = some (some v) := by
        unfold L2.start
        rw [List.getElem?_append_left (by simpa [h.len] using hi), List.getElem?_map, h1]
        rfl
      rw [z]; exact h2
    · rw [List.getElem?_append_right (by simpa using hi)] at e
      obtain ⟨e1, e2⟩ := List.getElem?_eq_some_iff.mp e
      rw [List.getElem_replicate] at e2
      subst e2
      exact trivial
  · by_cases hi : i < xs.length
    · rw [List.getElem?_append_left hi] at e
      have z := hp x (List.mem_of_getElem? e)
      cases x with
      | l ys => exact z.elim
      | w v W => exact z.elim
      | _ => exact q.elim
    · rw [List.getElem?_append_right (by simpa using hi)] at e
      obtain ⟨e1, e2⟩ := List.getElem?_eq_some_iff.mp e
      rw [List.getElem_replicate] at e2
      subst e2
      exact q.elim
  · by_cases hi : i < xs.length
    · rw [List.getElem?_append_left hi] at e
      obtain ⟨u, h1, h2⟩ := h.at_ e
      exact W.dom H a h2.2 q
    · rw [List.getElem?_append_right (by simpa using hi)] at e
      obtain ⟨e1, e2⟩ := List.getElem?_eq_some_iff.mp e
      rw [List.getElem_replicate] at e2
      cases e2
theorem cal_args {g x : Str} {st : Stmt} {N ps : List Str} {k : Nat} {R : List Sl → PyData → Prop} (O : Own K mg g (defD x st) []) (S : FnScope N ps (defScope st)) (len : ∀ xs d, R xs d → xs.length = ps.length ∧ ∀ y ∈ xs, Pln y) (hn : ps.length ≤ N.length)
    (hb : ∀ (kV doc pm : Value) (an : Option Addr) (cdv ct : Value) (us : List Value), us.length = ps.length → bindArgs (PySem.W.fnOf x x (defArgs st) (defBody st) (defScope st) .none kV doc pm an cdv ct) ⟨us, []⟩ = pure (ps.zip us))
    (body : ∀ (f : Addr) (cdv : Value) (A : Around) (outer : List PySem.Env) (s : Shared) (H : Hp) (E : XK), Room k (A.deeper (PyProof.Rows.envOfC x (defScope st) s.heap.objs.size f cdv)) → ∀ xs d, R xs d →
      SJs (BX P w K mg base N x (defScope st) f cdv A outer s H E) (xs ++ List.replicate (N.length - xs.length) .no) (defBody st) (fun _ => d = .none) (fun d' _ => d' = .d d)) : Cal P w K mg base (k + 1) g (ASp K R) [] := by
  obtain ⟨f, fd, F, m⟩ := O.it
  refine ⟨f, fd, ps, [], m, F.kp, F.ok (N := N) S (fun vs H Q E h => ?_) (fun cdv A outer s H vs Q E hr h => ?_), F.bindsN hb, .nil⟩
  · obtain ⟨ds, d, h1, h2, _⟩ := h
    rw [h1.len]
    exact (len _ _ h2).1
  · obtain ⟨ds, d, h1, h2, h3⟩ := h
    refine ⟨_, PSs.nox pss_w, ?_⟩
    have hl : ds.length ≤ N.length := by rw [(len _ _ h2).1]; exact hn
    refine body f cdv A outer s H E hr ds d h2 H (fun _ => False) _ H (start_envA h1 (len _ _ h2).2 hl) _ (fun σ' H' ρ' e t n => ?_) fun v H' d' ρ' t o q => ?_
    · have z := h3 .non H' e.ex (by rw [n]; exact .non)
      exact z
    · subst q
      exact h3 v H' (o.1.elim fun _ z => z.ex) o.2
end
end TC
set_option linter.all false
/-! The mirror: what the program does, in plain Lean, and how its things are written as data. -/
namespace TC
open PySem

/-! ### fractions -/
abbrev Fr := Nat × Nat
def fmk (n m : Nat) : Fr := (n / Nat.gcd n m, m / Nat.gcd n m)
def fplus (a b : Fr) : Fr := fmk (a.1 * b.2 + b.1 * a.2) (a.2 * b.2)
def fless (a b : Fr) : Bool := decide (a.1 * b.2 < b.1 * a.2)
def fminus (a b : Fr) : Fr := fmk (a.1 * b.2 - b.1 * a.2) (a.2 * b.2)
def flesser (a b : Fr) : Fr := if fless a b then a else b

/-! ### data -/
def dI (n : Nat) : PyData := .int (n : Int)
def eFr (p : Fr) : PyData := .tuple [dI p.1, dI p.2]
inductive Ans where
  | late | done (m : Nat)
  deriving DecidableEq
def eAns : Ans → PyData
  | .late => .tuple [.str "late"]
  | .done m => .tuple [.str "done", dI m]
def eOAns : Option Ans → PyData
  | none => .none
  | some a => eAns a
structure Call where
  first : Nat
  last : Nat
  lane : Nat
  ans : Option Ans
def eCall (c : Call) : PyData := .tuple [dI c.first, dI c.last, dI c.lane, eOAns c.ans]
structure Grp where
  heard : Nat
  calls : List Call
def eGrp (g : Grp) : PyData := .tuple [dI g.heard, .tuple (g.calls.map eCall)]
structure Clr where
  purse : Fr
  tries : Nat
  groups : List Grp
def eClr (c : Clr) : PyData := .tuple [eFr c.purse, dI c.tries, .tuple (c.groups.map eGrp)]
structure Key where
  c : Nat
  g : Nat
  n : Nat
  deriving DecidableEq
def eKey (k : Key) : PyData := .tuple [dI k.c, dI k.g, dI k.n]
inductive Letter where
  | ask (k : Key) (cell : Str) (number last heard : Nat)
  | tell (k : Key) (a : Ans)
def eLetter : Letter → PyData
  | .ask k cell number last heard => .tuple [.str "ask", eKey k, .str cell, dI number, dI last, dI heard]
  | .tell k a => .tuple [.str "tell", eKey k, eAns a]
def eLane (l : List Letter) : PyData := .tuple (l.map eLetter)
structure Wait where
  n : Nat
  cell : Str
  number : Nat
  last : Nat
def eWait (w : Wait) : PyData := .tuple [dI w.n, .str w.cell, dI w.number, dI w.last]
structure Row where
  c : Nat
  g : Nat
  next : Nat
  floor : Nat
  answers : List Ans
  waiting : List Wait
def eRow (r : Row) : PyData := .tuple [.tuple [dI r.c, dI r.g], dI r.next, dI r.floor, .tuple (r.answers.map eAns), .tuple (r.waiting.map eWait)]
structure House where
  cells : List (Str × Nat)
  book : List (Key × Ans)
  rows : List Row
def eCell (p : Str × Nat) : PyData := .tuple [.str p.1, dI p.2]
def eBook (p : Key × Ans) : PyData := .tuple [eKey p.1, eAns p.2]
def eHouse (h : House) : PyData := .tuple [.tuple (h.cells.map eCell), .tuple (h.book.map eBook), .tuple (h.rows.map eRow)]
structure State where
  clock : Nat
  callers : List Clr
  lanes : List (List Letter)
  house : House
def eState (s : State) : PyData := .tuple [dI s.clock, .tuple (s.callers.map eClr), .tuple (s.lanes.map eLane), eHouse s.house]
structure CallS where
  cell : Str
  number : Nat
  span : Nat
def eCallS (c : CallS) : PyData := .tuple [.str c.cell, dI c.number, dI c.span]
structure ClrS where
  groups : List (List CallS)
  rate : Fr
  most : Fr
def eGrpS (g : List CallS) : PyData := .tuple (g.map eCallS)
def eClrS (c : ClrS) : PyData := .tuple [.tuple (c.groups.map eGrpS), eFr c.rate, eFr c.most]
structure Setting where
  callers : List ClrS
  window : Nat
  patience : Nat
def eSetting (s : Setting) : PyData := .tuple [.tuple (s.callers.map eClrS), dI s.window, dI s.patience]
inductive Step where
  | go (c : Nat) | get (l k : Nat) | lose (l k : Nat) | double (l k : Nat) | tick | tear (l : Nat) | fall
def eStep : Step → PyData
  | .go c => .tuple [.str "go", dI c]
  | .get l k => .tuple [.str "get", dI l, dI k]
  | .lose l k => .tuple [.str "lose", dI l, dI k]
  | .double l k => .tuple [.str "double", dI l, dI k]
  | .tick => .tuple [.str "tick"]
  | .tear l => .tuple [.str "tear", dI l]
  | .fall => .tuple [.str "fall"]
/-- the step's lane, where it has one, is 0 or 1 -/
def Step.ok : Step → Prop
  | .get l _ | .lose l _ | .double l _ | .tear l => l < 2
  | _ => True
/-! ### data that can be laid, of no great depth -/
def Lay (n : Nat) (d : PyData) : Prop := d.canLay0 = true ∧ d.depth ≤ n
theorem Lay.shaped {n : Nat} {d : PyData} (h : Lay n d) (hn : n ≤ 64 := by decide) : SeqAt.shaped d = true := by
  unfold SeqAt.shaped
  rw [h.1, decide_eq_true (Nat.le_trans h.2 hn)]
  rfl
theorem lay_int (i : Int) : Lay 0 (.int i) := ⟨by simp [PyData.canLay0], by simp [PyData.depth]⟩
theorem lay_I (n : Nat) : Lay 0 (dI n) := lay_int _
theorem lay_non : Lay 0 .none := ⟨by simp [PyData.canLay0], by simp [PyData.depth]⟩
theorem lay_bool (b : Bool) : Lay 0 (.bool b) := ⟨by simp [PyData.canLay0], by simp [PyData.depth]⟩
theorem lay_str {x : Str} (h : PyData.strOk x = true) : Lay 0 (.str x) := ⟨by simp [PyData.canLay0, h], by simp [PyData.depth]⟩
theorem Lay.up {n m : Nat} {d : PyData} (h : Lay n d) (hn : n ≤ m) : Lay m d := ⟨h.1, Nat.le_trans h.2 hn⟩
theorem layAll {n : Nat} : ∀ {ds : List PyData}, (∀ d ∈ ds, Lay n d) → PyData.canLayAll0 ds = true ∧ PyData.depthAll ds ≤ n
  | [], _ => ⟨by simp [PyData.canLayAll0], by simp [PyData.depthAll]⟩
  | d :: ds, h => by
    obtain ⟨h1, h2⟩ := h d List.mem_cons_self
    obtain ⟨h3, h4⟩ := layAll fun e he => h e (List.mem_cons_of_mem _ he)
    exact ⟨by simp [PyData.canLayAll0, h1, h3], by simp only [PyData.depthAll]; omega⟩
theorem lay_tup {n : Nat} {ds : List PyData} (h : ∀ d ∈ ds, Lay n d) : Lay (n + 1) (.tuple ds) := by
  obtain ⟨h1, h2⟩ := layAll h
  exact ⟨by simp [PyData.canLay0, h1], by simp only [PyData.depth]; omega⟩
theorem lay_lst {n : Nat} {ds : List PyData} (h : ∀ d ∈ ds, Lay n d) : Lay (n + 1) (.list ds) := by
  obtain ⟨h1, h2⟩ := layAll h
  exact ⟨by simp [PyData.canLay0, h1], by simp only [PyData.depth]; omega⟩
theorem lay_map {α : Type} {f : α → PyData} {n : Nat} {xs : List α} (h : ∀ x ∈ xs, Lay n (f x)) : Lay (n + 1) (.tuple (xs.map f)) := lay_tup fun d hd => by
  obtain ⟨x, hx, rfl⟩ := List.mem_map.mp hd
  exact h x hx
theorem lay_nil {n : Nat} : ∀ d ∈ ([] : List PyData), Lay n d := fun d h => by cases h
theorem lay_cons {n : Nat} {d : PyData} {ds : List PyData} (h : Lay n d) (t : ∀ e ∈ ds, Lay n e) : ∀ e ∈ d :: ds, Lay n e := fun e he => by
  rcases List.mem_cons.mp he with rfl | he
  · exact h
  · exact t e he
mutual
theorem eqv_rf : ∀ d : PyData, d.canLay0 = true → PyData.eqv d d = true
  | .none, _ => by simp [PyData.eqv]
  | .bool _, _ => by simp [PyData.eqv]
  | .int _, _ => by simp [PyData.eqv]
  | .str _, _ => by simp [PyData.eqv]
  | .list xs, h => by
    simp only [PyData.eqv]
    exact eqvAll_rf xs (by simpa [PyData.canLay0] using h)
  | .tuple xs, h => by
    simp only [PyData.eqv]
    exact eqvAll_rf xs (by simpa [PyData.canLay0] using h)
  | .dict _, h => by simp [PyData.canLay0] at h
theorem eqvAll_rf : ∀ xs : List PyData, PyData.canLayAll0 xs = true → PyData.eqvAll xs xs = true
  | [], _ => by simp [PyData.eqvAll]
  | x :: xs, h => by
    have z : x.canLay0 = true ∧ PyData.canLayAll0 xs = true := by simpa [PyData.canLayAll0] using h
    simp [PyData.eqvAll, eqv_rf x z.1, eqvAll_rf xs z.2]
end
theorem Lay.rf {n : Nat} {d : PyData} (h : Lay n d) : PyData.eqv d d = true := eqv_rf d h.1
theorem any_eqv {d : PyData} {ds : List PyData} (h : d ∈ ds) (r : PyData.eqv d d = true) : (ds.any fun z => PyData.eqv z d) = true := List.any_eq_true.mpr ⟨d, h, r⟩

/-! ### settings -/
structure WfS (S : Setting) : Prop where
  nc : S.callers.length ≤ 3
  ng : ∀ cs ∈ S.callers, cs.groups.length ≤ 2
  nn : ∀ cs ∈ S.callers, ∀ g ∈ cs.groups, g.length ≤ 4
  call : ∀ cs ∈ S.callers, ∀ g ∈ cs.groups, ∀ c ∈ g, PyData.strOk c.cell = true ∧ c.number ≤ 9 ∧ c.span ≤ 20
  rate : ∀ cs ∈ S.callers, 0 < cs.rate.2 ∧ cs.rate.2 ≤ 3 ∧ cs.rate.1 ≤ cs.rate.2
  most : ∀ cs ∈ S.callers, 0 < cs.most.2 ∧ cs.most.2 ≤ 2 ∧ cs.most.1 ≤ 5
  win : 1 ≤ S.window ∧ S.window ≤ 3
  pat : 1 ≤ S.patience ∧ S.patience ≤ 4
def grpS (S : Setting) (c g : Nat) : Option (List CallS) := S.callers[c]?.bind (·.groups[g]?)
def callS (S : Setting) (k : Key) : Option CallS := (grpS S k.c k.g).bind (·[k.n]?)
abbrev Pair := Nat × Nat
def ePair (p : Pair) : PyData := .tuple [dI p.1, dI p.2]
def pairsFrom : Nat → List ClrS → List Pair
  | _, [] => []
  | c, cs :: r => (List.range cs.groups.length).map (fun g => (c, g)) ++ pairsFrom (c + 1) r
def pairsS (S : Setting) : List Pair := pairsFrom 0 S.callers
def keysS (S : Setting) : List Key := (pairsS S).flatMap fun p => (List.range ((grpS S p.1 p.2).getD []).length).map fun n => ⟨p.1, p.2, n⟩
theorem mem_pairsFrom {c g : Nat} : ∀ {l : List ClrS} {i : Nat}, (c, g) ∈ pairsFrom i l ↔ ∃ j cs, c = i + j ∧ l[j]? = some cs ∧ g < cs.groups.length
  | [], i => by simp [pairsFrom]
  | cs :: r, i => by
    unfold pairsFrom
    rw [List.mem_append, mem_pairsFrom]
    constructor
    · rintro (h | ⟨j, cs', h1, h2, h3⟩)
      · obtain ⟨g', h1, h2⟩ := List.mem_map.mp h
        cases h2
        exact ⟨0, cs, rfl, rfl, List.mem_range.mp h1⟩
      · exact ⟨j + 1, cs', by omega, by simpa using h2, h3⟩
    · rintro ⟨j, cs', h1, h2, h3⟩
      cases j with
      | zero =>
        simp at h2
        subst h2
        exact .inl (List.mem_map.mpr ⟨g, List.mem_range.mpr h3, by rw [h1]; rfl⟩)
      | succ j => exact .inr ⟨j, cs', by omega, by simpa using h2, h3⟩
theorem mem_pairsS {S : Setting} {c g : Nat} {l : List CallS} (h : grpS S c g = some l) : (c, g) ∈ pairsS S := by
  unfold grpS at h
  cases e : S.callers[c]? with
  | none => rw [e] at h; cases h
  | some cs =>
    rw [e] at h
    exact mem_pairsFrom.mpr ⟨c, cs, by omega, e, (List.getElem?_eq_some_iff.mp h).1⟩
theorem mem_keysS {S : Setting} {k : Key} {x : CallS} (h : callS S k = some x) : k ∈ keysS S := by
  unfold callS at h
  cases e : grpS S k.c k.g with
  | none => rw [e] at h; cases h
  | some l =>
    rw [e] at h
    have hn := (List.getElem?_eq_some_iff.mp (show l[k.n]? = some x from h)).1
    refine List.mem_flatMap.mpr ⟨(k.c, k.g), mem_pairsS e, List.mem_map.mpr ⟨k.n, List.mem_range.mpr ?_, rfl⟩⟩
    rw [e]
    exact hn
theorem pairsFrom_len : ∀ (l : List ClrS) (i : Nat), (∀ cs ∈ l, cs.groups.length ≤ 2) → (pairsFrom i l).length ≤ 2 * l.length
  | [], _, _ => Nat.zero_le _
  | cs :: r, i, h => by
    have h1 := h cs List.mem_cons_self
    have h2 := pairsFrom_len r (i + 1) fun c hc => h c (List.mem_cons_of_mem _ hc)
    unfold pairsFrom
    rw [List.length_append, List.length_map, List.length_range, List.length_cons]
    omega
theorem WfS.pairs {S : Setting} (h : WfS S) : (pairsS S).length ≤ 6 := by
  have := pairsFrom_len S.callers 0 h.ng
  have := h.nc
  unfold pairsS
  omega
theorem grpS_mem {S : Setting} {c g : Nat} {l : List CallS} (h : grpS S c g = some l) : ∃ cs ∈ S.callers, l ∈ cs.groups := by
  unfold grpS at h
  cases e : S.callers[c]? with
  | none => rw [e] at h; cases h
  | some cs =>
    rw [e] at h
    exact ⟨cs, List.mem_of_getElem? e, List.mem_of_getElem? (show cs.groups[g]? = some l from h)⟩
theorem WfS.grp {S : Setting} (h : WfS S) {c g : Nat} {l : List CallS} (e : grpS S c g = some l) : l.length ≤ 4 := by
  obtain ⟨cs, h1, h2⟩ := grpS_mem e
  exact h.nn cs h1 l h2
end TC
set_option Elab.async false
set_option linter.all false
set_option maxRecDepth 100000
set_option maxHeartbeats 4000000
/-! The text by places; the built-ins' names; rules for steps that come often. -/
namespace TC
open PySem L2
def top (i : Nat) : Stmt := PySem.Challenge.pw_twicecalls_k70_whole_fair_ends.main.body.getD i (.Pass ⟨0, 0, 0, 0⟩)
/-- built-in names that the module leaves as they are -/
structure Bl (mg : Str → Option Value) : Prop where
  all : mg "all" = none
  any : mg "any" = none
  bool : mg "bool" = none
  dict : mg "dict" = none
  enumerate : mg "enumerate" = none
  int : mg "int" = none
  isinstance : mg "isinstance" = none
  len : mg "len" = none
  list : mg "list" = none
  max : mg "max" = none
  min : mg "min" = none
  range : mg "range" = none
  sorted : mg "sorted" = none
  str : mg "str" = none
  sum : mg "sum" = none
  tuple : mg "tuple" = none
section
variable {X : Cx} {ρ : List Sl} {a b c e : Expr} {es : List Expr} {pos p2 : Pos}
/-- a[k], k written -/
theorem ed_ic {ds : List PyData} {k : Nat} {d : PyData} {j} (ha : ED X ρ a (.tuple ds)) (h : ds[k]? = some d) (hs : PlainIx (.Constant (.int (Int.ofNat k)) j p2) := by exact fun _ _ => rfl) : ED X ρ (.Subscript a (.Constant (.int (Int.ofNat k)) j p2) pos) d := ed_ix ha ed_int (atD_nat h) hs
theorem ed_icL {ds : List PyData} {k : Nat} {d : PyData} {j} (ha : ER X ρ a ds) (h : ds[k]? = some d) (hs : PlainIx (.Constant (.int (Int.ofNat k)) j p2) := by exact fun _ _ => rfl) : ED X ρ (.Subscript a (.Constant (.int (Int.ofNat k)) j p2) pos) d := ed_ixL ha ed_int (atD_nat h) hs
/-- a[n], n a number -/
theorem ed_xn {ds : List PyData} {n : Nat} {d : PyData} (ha : ED X ρ a (.tuple ds)) (hb : ED X ρ b (dI n)) (h : ds[n]? = some d) (hs : PlainIx b := by exact fun _ _ => rfl) : ED X ρ (.Subscript a b pos) d := ed_ix ha hb (atD_nat h) hs
theorem ed_xnL {ds : List PyData} {n : Nat} {d : PyData} (ha : ER X ρ a ds) (hb : ED X ρ b (dI n)) (h : ds[n]? = some d) (hs : PlainIx b := by exact fun _ _ => rfl) : ED X ρ (.Subscript a b pos) d := ed_ixL ha hb (atD_nat h) hs
/-- a[n], the data one of a map -/
theorem ed_xm {α : Type} (f : α → PyData) {xs : List α} {n : Nat} {x : α} (ha : ED X ρ a (.tuple (xs.map f))) (hb : ED X ρ b (dI n)) (h : xs[n]? = some x) (hs : PlainIx b := by exact fun _ _ => rfl) : ED X ρ (.Subscript a b pos) (f x) := ed_xn ha hb (by rw [List.getElem?_map, h]; rfl) hs
theorem ed_addn {i j : Nat} (ha : ED X ρ a (dI i)) (hb : ED X ρ b (dI j)) : ED X ρ (.BinOp a .Add b pos) (dI (i + j)) := ed_add ha hb
theorem ed_muln {i j : Nat} (ha : ED X ρ a (dI i)) (hb : ED X ρ b (dI j)) (h : i < 2 ^ 64 ∨ j < 2 ^ 64) : ED X ρ (.BinOp a .Mult b pos) (dI (i * j)) := ed_mul ha hb (by unfold CMul; omega)
theorem ed_subn {i j : Nat} (ha : ED X ρ a (dI i)) (hb : ED X ρ b (dI j)) (h : j ≤ i) : ED X ρ (.BinOp a .Sub b pos) (dI (i - j)) := ed_is (ed_sub ha hb) (by show PyData.int _ = PyData.int _; congr 1; omega)
theorem ed_modn {i j : Nat} (ha : ED X ρ a (dI i)) (hb : ED X ρ b (dI j)) (h : 0 < j) : ED X ρ (.BinOp a .Mod b pos) (dI (i % j)) := ed_mod ha hb (by omega)
theorem ed_divn {i j : Nat} (ha : ED X ρ a (dI i)) (hb : ED X ρ b (dI j)) (h : 0 < j ∧ j < 1073741824) : ED X ρ (.BinOp a .FloorDiv b pos) (dI (i / j)) := ed_fdiv ha hb (by unfold CDiv; omega)
theorem ed_k {k : Nat} {j} : ED X ρ (.Constant (.int (Int.ofNat k)) j pos) (dI k) := ed_int
theorem ed_ltn {i j : Nat} (ha : ED X ρ a (dI i)) (hb : ED X ρ b (dI j)) : ED X ρ (.Compare a [.Lt] [b] pos) (.bool (decide (i < j))) := ed_is (ed_cmp op_lt ha hb rI0_ok (nomark _)) (by congr 1; exact decide_eq_decide.mpr (by omega))
theorem td_ltn {i j : Nat} (ha : ED X ρ a (dI i)) (hb : ED X ρ b (dI j)) : TD X ρ (.Compare a [.Lt] [b] pos) (decide (i < j)) := td_is (td_cmp op_lt ha hb rI0_ok (nomark _)) (decide_eq_decide.mpr (by omega))
theorem td_nen {i j : Nat} (ha : ED X ρ a (dI i)) (hb : ED X ρ b (dI j)) : TD X ρ (.Compare a [.NotEq] [b] pos) (!decide (i = j)) := td_is (td_cmp op_ne ha hb rNe_ok (nomark _)) (by congr 1; exact decide_eq_decide.mpr (by omega))
theorem td_eqn {i j : Nat} (ha : ED X ρ a (dI i)) (hb : ED X ρ b (dI j)) : TD X ρ (.Compare a [.Eq] [b] pos) (decide (i = j)) := td_is (td_cmp op_eq ha hb rEq_ok (nomark _)) (decide_eq_decide.mpr (by omega))
/-- len(a) == len(b) and the like, of ints | of data -/
theorem ed_eqn {i j : Nat} (ha : ED X ρ a (dI i)) (hb : ED X ρ b (dI j)) : ED X ρ (.Compare a [.Eq] [b] pos) (.bool (decide (i = j))) := ed_is (ed_cmp op_eq ha hb rEq_ok (nomark _)) (by congr 1; exact decide_eq_decide.mpr (by omega))
theorem ed_gen {i j : Nat} (ha : ED X ρ a (dI i)) (hb : ED X ρ b (dI j)) : ED X ρ (.Compare a [.GtE] [b] pos) (.bool (decide (j ≤ i))) := ed_is (ed_cmp op_ge ha hb rI0_ok (nomark _)) (by congr 1; exact decide_eq_decide.mpr (by omega))
theorem td_gen {i j : Nat} (ha : ED X ρ a (dI i)) (hb : ED X ρ b (dI j)) : TD X ρ (.Compare a [.GtE] [b] pos) (decide (j ≤ i)) := td_is (td_cmp op_ge ha hb rI0_ok (nomark _)) (decide_eq_decide.mpr (by omega))
theorem ed_eqD {x y : PyData} (hu : X.A.units + 64 < cLine) (ha : ED X ρ a x) (hb : ED X ρ b y) (h1 : SeqAt.shaped x = true) (h2 : SeqAt.shaped y = true) : ED X ρ (.Compare a [.Eq] [b] pos) (.bool (PyData.eqv x y)) := ed_cmp (op_eqD hu) ha hb (rEqD_ok h1 h2) (nomark _)
theorem td_eqD {x y : PyData} (hu : X.A.units + 64 < cLine) (ha : ED X ρ a x) (hb : ED X ρ b y) (h1 : SeqAt.shaped x = true) (h2 : SeqAt.shaped y = true) : TD X ρ (.Compare a [.Eq] [b] pos) (PyData.eqv x y) := td_cmp (op_eqD hu) ha hb (rEqD_ok h1 h2) (nomark _)
theorem td_neD {x y : PyData} (hu : X.A.units + 64 < cLine) (ha : ED X ρ a x) (hb : ED X ρ b y) (h1 : SeqAt.shaped x = true) (h2 : SeqAt.shaped y = true) : TD X ρ (.Compare a [.NotEq] [b] pos) (!PyData.eqv x y) := td_cmp (op_neD hu) ha hb (rNeD_ok h1 h2) (nomark _)
theorem ed_eqS {x y : Str} (ha : ED X ρ a (.str x)) (hb : ED X ρ b (.str y)) : ED X ρ (.Compare a [.Eq] [b] pos) (.bool (decide (x = y))) := ed_cmp op_eq ha hb rEqS_ok (nomark _)
theorem td_eqS {x y : Str} (ha : ED X ρ a (.str x)) (hb : ED X ρ b (.str y)) : TD X ρ (.Compare a [.Eq] [b] pos) (decide (x = y)) := td_cmp op_eq ha hb rEqS_ok (nomark _)
/-! ### tables of defs by texts -/
end
/-- the module's name x: a dict whose keys are these texts, its values the defs of these names -/
structure Tbl (K : PySem.W.Frag) (w : World) (mg : Str → Option Value) (x : Str) (kvs : List (Str × Str)) : Prop where
  it : ∃ (a : Addr) (es : Array DictEntry) (n : Nat), mg x = some (.ref a) ∧ KDict K w a es n ∧ ∀ p ∈ kvs, ∃ f, mg p.2 = some (.ref f) ∧ PySem.W.nsIn K a p.1 = some (some (.ref f))
section
variable {X : Cx} {ρ : List Sl} {a b c e : Expr} {es : List Expr} {pos p p2 : Pos}
theorem Tbl.f {K : PySem.W.Frag} {w : World} {mg : Str → Option Value} {x z g : Str} {kvs : List (Str × Str)} (T : Tbl K w mg x kvs) (hm : (z, g) ∈ kvs) : ∃ f, mg g = some (.ref f) := by
  obtain ⟨t, ds, n, h1, D, h2⟩ := T.it
  obtain ⟨f, h3, _⟩ := h2 _ hm
  exact ⟨f, h3⟩
theorem ev_tab {x z g : Str} {kvs : List (Str × Str)} {f : Addr} (T : Tbl X.K X.w X.mg x kvs) (hm : (z, g) ∈ kvs) (m : X.mg g = some (.ref f)) (hb : ED X ρ b (.str z)) (hg : Gl X x := by rfl) (hd : (x == ("__debug__" : Str)) = false := by decide) (hs : PlainIx b := by exact fun _ _ => rfl) : EV X ρ (.Subscript (.Name x p) b pos) (.r (.ref f)) := by
  obtain ⟨t, ds, n, h1, D, h2⟩ := T.it
  obtain ⟨f', h3, h4⟩ := h2 _ hm
  cases (show X.mg g = some (.ref f') from h3).symm.trans m
  exact fun σ H ev Q q => wE_of (pe_ix ix_kdict (pe_glob (v := .ref t) hg h1 rfl hd) pe_w hs) (hb σ H ev _ fun v H1 e1 o1 => ⟨t, z, .ref f, rfl, (show DT X.K H1 v (.str z) from o1).of_str, ⟨ds, n, _, D.at_, D.lit, h4, rfl⟩, q _ H1 e1 rfl⟩)
theorem td_inTab {x z g : Str} {kvs : List (Str × Str)} (T : Tbl X.K X.w X.mg x kvs) (hm : (z, g) ∈ kvs) (ha : ED X ρ a (.str z)) (hg : Gl X x := by rfl) (hd : (x == ("__debug__" : Str)) = false := by decide) (hb : behindInMarks .NotIn (.Name x p) = false := by with_unfolding_all rfl) : TD X ρ (.Compare a [.NotIn] [.Name x p] pos) false := by
  obtain ⟨t, ds, n, h1, D, h2⟩ := T.it
  obtain ⟨f, h3, h4⟩ := h2 _ hm
  exact fun σ H ev Q q => wT_of (pt_cmpR (op_notIn_kd D) pe_w (pe_glob (v := .ref t) hg h1 rfl hd) hb) (ha σ H ev _ fun v H1 e1 o1 => ⟨z, _, (show DT X.K H1 v (.str z) from o1).of_str, rfl, h4, false, rfl, q H1 e1⟩)
/-- f(..), f a local name that holds the module's def g -/
theorem ed_callLoc (i : Nat) {k j : Nat} {x g : Str} {f : Addr} {R : List PyData → PyData → Prop} {ds : List PyData} {d : PyData} (cl : Cal X.prog X.w X.K X.mg X.base k g (PSp X.K R) []) (m : X.mg g = some (.ref f)) (hr : Room j X.A) (ha : AD X ρ (e :: es) (ds.map .d)) (h : R ds d) (h0 : ρ[i]? = some (.r (.ref f)) := by rfl) (hk : k ≤ j := by decide)
    (hN : X.N[i]? = some x := by rfl) (hv : Vis X.env.scope x := by first | exact Or.inl rfl | exact Or.inr (Or.inl rfl) | exact Or.inr (Or.inr rfl)) (hdb : (x == ("__debug__" : Str)) = false := by decide) (hcd : (x == ("__classdict__" : Str)) = false := by decide)
    (he : starEach (e :: es) X.env = (false, eval e X.env) :: starEach es X.env := by rfl) (hpl : (backTo pos (starEach es X.env)).any (·.1) = false := by rfl) : ED X ρ (.Call (.Name x p) (e :: es) [] pos) d := by
  obtain ⟨f', fd, ps, dd, m', kp, F, b, dv⟩ := cl.there
  cases m'.symm.trans m
  exact fun σ H ev Q q => wE_of (pe_callL (i := i) (E := E0) F (hr.mono hk) hN hv kp b dv pass0 pa_w hdb hcd he hpl) ⟨ev.sl i _ h0, ha σ H ev _ fun vs H1 e1 o1 => ⟨ds, d, by rw [List.append_nil]; exact o1.dts, h, fun v H2 e2 o2 => q v H2 (e1.tr e2) o2⟩⟩
/-! ### in a tuple -/
theorem ed_inT {d : PyData} {ds : List PyData} {n m : Nat} (hu : X.A.units + 65 < cLine) (ha : ED X ρ a d) (hb : ED X ρ b (.tuple ds)) (h1 : Lay n d) (h2 : Lay m (.tuple ds)) (h : d ∈ ds) (hn : n ≤ 64 := by decide) (hm' : m ≤ 64 := by decide) (hm : behindInMarks .In b = false := by with_unfolding_all rfl) : ED X ρ (.Compare a [.In] [b] pos) (.bool true) :=
  ed_cmp (op_inT hu) ha hb (fun v w H Q q1 q2 q => ⟨d, ds, q1.dp, q2.dp, h1.shaped hn, h2.shaped hm', by rw [any_eqv h h1.rf]; exact q⟩) hm
theorem td_niT {d : PyData} {ds : List PyData} {n m : Nat} (hu : X.A.units + 65 < cLine) (ha : ED X ρ a d) (hb : ED X ρ b (.tuple ds)) (h1 : Lay n d) (h2 : Lay m (.tuple ds)) (h : d ∈ ds) (hn : n ≤ 64 := by decide) (hm' : m ≤ 64 := by decide) (hm : behindInMarks .NotIn b = false := by with_unfolding_all rfl) : TD X ρ (.Compare a [.NotIn] [b] pos) false :=
  td_cmp (op_niT hu) ha hb (fun v w H Q q1 q2 q => ⟨d, ds, q1.dp, q2.dp, h1.shaped hn, h2.shaped hm', by rw [any_eqv h h1.rf]; exact q⟩) hm
end
theorem roomU {k : Nat} {A : Around} (h : Room k A) : A.units + 65 < cLine := by have := h.un; omega
theorem roomU64 {k : Nat} {A : Around} (h : Room k A) : A.units + 64 < cLine := by have := h.un; omega
/-! ### slices by numbers -/
theorem cut_from {ds : List PyData} {n : Nat} : cutD ds (some (n : Int)) none = ds.drop n := by
  unfold cutD
  rw [HT.sIx_nat, HT.sIx_none]
  by_cases h : n ≤ ds.length
  · rw [Nat.min_eq_left h, List.take_of_length_le (by simp)]
  · rw [Nat.min_eq_right (by omega), List.drop_of_length_le (by omega), List.drop_of_length_le (by omega), List.take_nil]
theorem cut_to {ds : List PyData} {n : Nat} : cutD ds none (some (n : Int)) = ds.take n := by
  unfold cutD
  rw [HT.sIx_nat, HT.sIx_none, List.drop_zero, Nat.sub_zero]
  by_cases h : n ≤ ds.length
  · rw [Nat.min_eq_left h]
  · rw [Nat.min_eq_right (by omega), List.take_of_length_le (Nat.le_refl _), List.take_of_length_le (by omega)]
section
variable {X : Cx} {ρ : List Sl} {a b : Expr} {pos p2 p3 : Pos}
theorem ed_fromE {ds : List PyData} {n : Nat} (ha : ED X ρ a (.tuple ds)) (hb : ED X ρ b (dI n)) : ED X ρ (.Subscript a (.Slice (some b) none none p2) pos) (.tuple (ds.drop n)) := ed_is (ed_sl (l := some (n : Int)) (u := none) ha hb trivial) (by rw [cut_from])
theorem ed_toE {ds : List PyData} {n : Nat} (ha : ED X ρ a (.tuple ds)) (hb : ED X ρ b (dI n)) : ED X ρ (.Subscript a (.Slice none (some b) none p2) pos) (.tuple (ds.take n)) := ed_is (ed_sl (l := none) (u := some (n : Int)) ha trivial hb) (by rw [cut_to])
theorem ed_from {ds : List PyData} {k : Nat} {j} (ha : ED X ρ a (.tuple ds)) : ED X ρ (.Subscript a (.Slice (some (.Constant (.int (Int.ofNat k)) j p3)) none none p2) pos) (.tuple (ds.drop k)) := ed_fromE ha ed_k
theorem ed_to {ds : List PyData} {k : Nat} {j} (ha : ED X ρ a (.tuple ds)) : ED X ρ (.Subscript a (.Slice none (some (.Constant (.int (Int.ofNat k)) j p3)) none p2) pos) (.tuple (ds.take k)) := ed_toE ha ed_k
end
/-! ### items of what is walked -/
theorem map_at {α : Type} {f : α → PyData} {xs : List α} {i : Nat} {d : PyData} (h : (xs.map f)[i]? = some d) : ∃ x, xs[i]? = some x ∧ d = f x := by
  rw [List.getElem?_map] at h
  cases e : xs[i]? with
  | none => rw [e] at h; cases h
  | some x => rw [e] at h; cases h; exact ⟨x, rfl, rfl⟩
theorem enumM_at {α : Type} {f : α → PyData} {xs : List α} {i : Nat} {d : PyData} (h : (enumD (xs.map f))[i]? = some d) : ∃ x, xs[i]? = some x ∧ d = .tuple [dI i, f x] := by
  rw [enumD, List.getElem?_mapIdx, List.getElem?_map] at h
  cases e : xs[i]? with
  | none => rw [e] at h; cases h
  | some x => rw [e] at h; cases h; exact ⟨x, rfl, rfl⟩
theorem range_at {n i : Nat} {d : PyData} (h : (rangeD n)[i]? = some d) : i < n ∧ d = dI i := by
  obtain ⟨x, h1, rfl⟩ := map_at h
  obtain ⟨h2, h3⟩ := List.getElem?_eq_some_iff.mp h1
  rw [List.getElem_range] at h3
  subst h3
  exact ⟨by simpa using h2, rfl⟩
theorem range_mem {n : Nat} {d : PyData} (h : d ∈ rangeD n) : ∃ i, i < n ∧ d = dI i := by
  obtain ⟨i, h1, rfl⟩ := List.mem_map.mp h
  exact ⟨i, List.mem_range.mp h1, rfl⟩
theorem range_map {n : Nat} {f : PyData → PyData} {g : Nat → PyData} (h : ∀ i, i < n → f (dI i) = g i) : (rangeD n).map f = (List.range n).map g := by
  unfold rangeD
  rw [List.map_map]
  exact List.map_congr_left fun i hi => h i (List.mem_range.mp hi)
theorem sz : 1000000 ≤ sizeLine := by decide
theorem take_snoc {α : Type} {xs : List α} {i : Nat} {x : α} (h : xs[i]? = some x) : xs.take (i + 1) = xs.take i ++ [x] := by
  rw [List.take_add_one, h]; rfl
theorem drop_at {α : Type} {xs : List α} {i : Nat} {x : α} (h : xs[i]? = some x) : xs.drop i = x :: xs.drop (i + 1) := by
  obtain ⟨h1, h2⟩ := List.getElem?_eq_some_iff.mp h
  rw [List.drop_eq_getElem_cons h1, h2]
theorem own_by {ps : List (Nat × PyData)} {L : List Nat} (h : (ps.all fun p => L.contains p.1) = true := by rfl) : ∀ p ∈ ps, p.1 ∈ L := fun p hp => by
  simpa using List.all_eq_true.mp h p hp
/-- the slots written anew -/
theorem SJs.to {X : Cx} {ρ : List Sl} {rest : List Stmt} {N : List Sl → Prop} {R : Sl → List Sl → Prop} (ρ' : List Sl) (h : SJs X ρ' rest N R) (e : ρ = ρ' := by rfl) : SJs X ρ rest N R := e ▸ h
/-! ### a pair of numbers that the module's name holds -/
section
variable {X : Cx} {ρ : List Sl} {a b : Expr} {pos : Pos}
theorem ev_glob {x : Str} {v : V} {u : Value} (hm : X.mg x = some u) (r : RelV v u) (hg : Gl X x := by rfl) (hd : (x == ("__debug__" : Str)) = false := by decide) : EV X ρ (.Name x pos) (.r v) := fun σ H ev Q q =>
  wE_of (pe_glob hg hm r hd) (q v H (Ex.rf H) rfl)
theorem ed_kix {t : Addr} {is : List Int} {k : Nat} {i : Int} {j p2} (ha : EV X ρ a (.r (.ref t))) (hq : ∀ H, SqT X.K H t (is.map V.int)) (h : is[k]? = some i) (hs : PlainIx (.Constant (.int (Int.ofNat k)) j p2) := by exact fun _ _ => rfl) : ED X ρ (.Subscript a (.Constant (.int (Int.ofNat k)) j p2) pos) (.int i) := fun σ H ev Q q =>
  wE_of (pe_ix ix_tup pe_w pe_w hs) (ha σ H ev _ fun v H1 e1 o1 => (ed_k (X := X) (ρ := ρ)) σ H1 (ev.ex e1) _ fun w H2 e2 o2 => by
    cases (show v = .ref t from o1)
    refine ⟨t, _, (k : Int), .int i, rfl, (show DT X.K H2 w (.int (k : Int)) from o2).of_int, hq H2, ?_, q _ H2 (e1.tr e2) (.int _)⟩
    have hk := (List.getElem?_eq_some_iff.mp h).1
    unfold atI ixN
    rw [if_pos (by omega), if_pos (by rw [List.length_map]; omega)]
    simp [h])
end
/-- WHOLE -/
structure Wh (K : PySem.W.Frag) (mg : Str → Option Value) (a : Addr) : Prop where
  m : mg "WHOLE" = some (.ref a)
  q : ∀ H, SqT K H a (([1, 1] : List Int).map V.int)
end TC
set_option Elab.async false
set_option linter.all false
set_option maxRecDepth 100000
set_option maxHeartbeats 4000000
/-! Defs, part 1: numbers, fractions, what is a step. -/
namespace TC
open PySem L2
section
variable {P : Program} {w : World} {K : PySem.W.Frag} {mg : Str → Option Value} {base : Heap}
/-! ### is_number, are_numbers -/
theorem sc_is_number : FnScope ["thing"] ["thing"] (defScope (top 5)) := ⟨rfl, rfl, rfl, by decide +kernel, rfl, by decide +kernel, by decide +kernel⟩
def R_is_number (ds : List PyData) (d : PyData) : Prop := ∃ n : Nat, ds = [dI n] ∧ d = .bool true
theorem c_is_number (T : Bl mg) (O : Own K mg "is_number" (defD "is_number" (top 5)) []) : Cal P w K mg base 1 "is_number" (PSp K R_is_number) [] := by
  refine cal_pure O sc_is_number ?_ (by decide) (fun _ _ _ _ _ _ us hl => match us, hl with | [_], _ => rfl) ?_
  · rintro ds d ⟨n, rfl, _⟩; rfl
  · rintro f cdv A outer s H E hr ds d ⟨n, rfl, rfl⟩
    refine sjs_ret (ed_andB (k := true) (m := true) (ed_isi "int" T.isinstance (ed_var 0) (ev_ty T.int bt_int) kt_ii) fun _ => ed_andB (k := true) (m := true) (ed_not (k := false) (ed_isi "int" T.isinstance (ed_var 0) (ev_ty T.bool bt_bool) kt_ib)) fun _ => ed_one (ed_is (ed_gen (ed_var 0) ed_k) (by simp))) rfl
theorem sc_are_numbers : FnScope ["thing", "many", "one"] ["thing", "many"] (defScope (top 6)) := ⟨rfl, rfl, rfl, by decide +kernel, rfl, by decide +kernel, by decide +kernel⟩
def R_are_numbers (ds : List PyData) (d : PyData) : Prop := ∃ (ns : List Nat) (m : Nat), ds = [.tuple (ns.map dI), dI m] ∧ ns.length ≤ 1000 ∧ d = .bool (decide (ns.length = m))
theorem c_are_numbers (T : Bl mg) (O : Own K mg "are_numbers" (defD "are_numbers" (top 6)) []) (c1 : Cal P w K mg base 1 "is_number" (PSp K R_is_number) []) : Cal P w K mg base 2 "are_numbers" (PSp K R_are_numbers) [] := by
  refine cal_pure O sc_are_numbers ?_ (by decide) (fun _ _ _ _ _ _ us hl => match us, hl with | [_, _], _ => rfl) ?_
  · rintro ds d ⟨n, m, rfl, _⟩; rfl
  · rintro f cdv A outer s H E hr ds d ⟨ns, m, rfl, hz, rfl⟩
    refine sjs_ret (ed_is (ed_andB (k := true) (m := decide (ns.length = m)) (ed_isi "tuple" T.isinstance (ed_var 0) (ev_ty T.tuple bt_tuple) kt_tt) fun _ => ed_is (ed_andB (k := decide (ns.length = m)) (m := true) (ed_is (ed_eqn (ed_lenT T.len (ed_var 0)) (ed_var 1)) (by rw [List.length_map])) fun _ => ed_one (ed_is (ed_all (bs := ns.map fun _ => true) T.all rfl (er_new (?_))) ?_)) (by rw [Bool.and_true])) (by rw [Bool.true_and])) rfl
    · exact ev_lcE (own := [("one", 2)]) (fun _ => .bool true) (it_tup (ed_var 0)).ic rfl sc_are_numbers.nd (blkOk_by (N := ["thing", "many", "one"]) (sc := defScope (top 6)) (by decide +kernel)) (by rw [List.length_map]; exact Nat.le_trans hz (by decide)) (by simp) (fun d hd => by
        obtain ⟨n, _, rfl⟩ := List.mem_map.mp hd
        exact ⟨[(2, dI n)], fun _ _ _ _ _ => gd_name 2 sc_are_numbers.nd, fun p hp => by rw [List.mem_singleton.mp hp]; exact List.mem_singleton.mpr rfl, fun _ _ _ _ _ => ed_call c1 hr (ad_consd (ed_var 2) ad_nild) ⟨n, rfl, rfl⟩⟩)
    · congr 1
      rw [List.all_map]
      exact List.all_eq_true.mpr fun _ _ => rfl
/-! ### fractions -/
theorem sc_divisor : FnScope ["one", "other"] ["one", "other"] (defScope (top 9)) := ⟨rfl, rfl, rfl, by decide +kernel, rfl, by decide +kernel, by decide +kernel⟩
def R_divisor (ds : List PyData) (d : PyData) : Prop := ∃ n m : Nat, ds = [dI n, dI m] ∧ d = dI (Nat.gcd n m)
theorem c_divisor (O : Own K mg "divisor" (defD "divisor" (top 9)) []) : Cal P w K mg base 1 "divisor" (PSp K R_divisor) [] := by
  refine cal_pure O sc_divisor ?_ (by decide) (fun _ _ _ _ _ _ us hl => match us, hl with | [_, _], _ => rfl) ?_
  · rintro ds d ⟨p, q, rfl, _⟩; rfl
  · rintro f cdv A outer s H E hr ds d ⟨n, m, rfl, rfl⟩
    refine sjs_cons (sj_while (fun k ρ => ∃ a b, ρ = [.d (dI a), .d (dI b)] ∧ k = b ∧ Nat.gcd a b = Nat.gcd n m) (N := fun ρ => ρ = [.d (dI (Nat.gcd n m)), .d (dI 0)]) ⟨n, m, rfl, rfl, rfl⟩ ?_ PassesOwn.never) ?_
    · rintro k ρ ⟨a, b, rfl, rfl, hg⟩
      refine ⟨_, td_nen (ed_var 1) ed_k, fun h => ?_, fun h => ?_⟩
      · have hb : k ≠ 0 := by simpa using h
        refine sjs_par 0 1 (ed_var 1) (ed_modn (ed_var 0) (ed_var 1) (by omega)) (sjs_nil ⟨a % k, Nat.mod_lt _ (by omega), k, a % k, rfl, rfl, ?_⟩) rfl sc_divisor.nd
        rw [← hg, Nat.gcd_comm a k, Nat.gcd_rec k a, Nat.gcd_comm]
      · have hb : k = 0 := by simpa using h
        subst hb
        rw [Nat.gcd_zero_right] at hg
        rw [hg]
    · rintro ρ rfl
      exact sjs_ret (ed_var 0) rfl
theorem sc_fraction_of : FnScope ["over", "under", "by"] ["over", "under"] (defScope (top 10)) := ⟨rfl, rfl, rfl, by decide +kernel, rfl, by decide +kernel, by decide +kernel⟩
def R_fraction_of (ds : List PyData) (d : PyData) : Prop := ∃ n m : Nat, ds = [dI n, dI m] ∧ 0 < m ∧ m < 1073741824 ∧ d = eFr (fmk n m)
theorem c_fraction_of (O : Own K mg "fraction_of" (defD "fraction_of" (top 10)) []) (c1 : Cal P w K mg base 1 "divisor" (PSp K R_divisor) []) : Cal P w K mg base 2 "fraction_of" (PSp K R_fraction_of) [] := by
  refine cal_pure O sc_fraction_of ?_ (by decide) (fun _ _ _ _ _ _ us hl => match us, hl with | [_, _], _ => rfl) ?_
  · rintro ds d ⟨p, q, rfl, _⟩; rfl
  · rintro f cdv A outer s H E hr ds d ⟨n, m, rfl, h1, h2, rfl⟩
    have h3 : 0 < Nat.gcd n m := Nat.gcd_pos_of_pos_right n h1
    have h4 : Nat.gcd n m < 1073741824 := Nat.lt_of_le_of_lt (Nat.gcd_le_right n h1) h2
    refine sjs_set 2 (ed_call c1 hr (ad_consd (ed_var 0) (ad_consd (ed_var 1) ad_nild)) ⟨n, m, rfl, rfl⟩) ?_ sc_fraction_of.nd
    exact sjs_ret (ed_tup (ad_consd (ed_divn (ed_var 0) (ed_var 2) ⟨h3, h4⟩) (ad_consd (ed_divn (ed_var 1) (ed_var 2) ⟨h3, h4⟩) ad_nild))) rfl
theorem sc_plus : FnScope ["one", "other"] ["one", "other"] (defScope (top 11)) := ⟨rfl, rfl, rfl, by decide +kernel, rfl, by decide +kernel, by decide +kernel⟩
/-- the second one small, so that every product is one the model has -/
def Small (q : Fr) : Prop := q.1 < 2 ^ 64 ∧ q.2 < 2 ^ 64
def R_plus (ds : List PyData) (d : PyData) : Prop := ∃ p q : Fr, ds = [eFr p, eFr q] ∧ Small q ∧ 0 < p.2 * q.2 ∧ p.2 * q.2 < 1073741824 ∧ d = eFr (fplus p q)
theorem c_plus (O : Own K mg "plus" (defD "plus" (top 11)) []) (c1 : Cal P w K mg base 2 "fraction_of" (PSp K R_fraction_of) []) : Cal P w K mg base 3 "plus" (PSp K R_plus) [] := by
  refine cal_pure O sc_plus ?_ (by decide) (fun _ _ _ _ _ _ us hl => match us, hl with | [_, _], _ => rfl) ?_
  · rintro ds d ⟨p, q, rfl, _⟩; rfl
  · rintro f cdv A outer s H E hr ds d ⟨p, q, rfl, h1, h2, h3, rfl⟩
    exact sjs_ret (ed_call c1 hr (ad_consd (ed_addn (ed_muln (ed_ic (ed_var 0) rfl) (ed_ic (ed_var 1) rfl) (.inr h1.2)) (ed_muln (ed_ic (ed_var 1) rfl) (ed_ic (ed_var 0) rfl) (.inl h1.1))) (ad_consd (ed_muln (ed_ic (ed_var 0) rfl) (ed_ic (ed_var 1) rfl) (.inr h1.2)) ad_nild)) ⟨_, _, rfl, h2, h3, rfl⟩) rfl
theorem sc_is_less : FnScope ["one", "other"] ["one", "other"] (defScope (top 12)) := ⟨rfl, rfl, rfl, by decide +kernel, rfl, by decide +kernel, by decide +kernel⟩
def R_is_less (ds : List PyData) (d : PyData) : Prop := ∃ p q : Fr, ds = [eFr p, eFr q] ∧ Small q ∧ d = .bool (fless p q)
theorem c_is_less (O : Own K mg "is_less" (defD "is_less" (top 12)) []) : Cal P w K mg base 1 "is_less" (PSp K R_is_less) [] := by
  refine cal_pure O sc_is_less ?_ (by decide) (fun _ _ _ _ _ _ us hl => match us, hl with | [_, _], _ => rfl) ?_
  · rintro ds d ⟨p, q, rfl, _⟩; rfl
  · rintro f cdv A outer s H E hr ds d ⟨p, q, rfl, h1, rfl⟩
    exact sjs_ret (ed_ltn (ed_muln (ed_ic (ed_var 0) rfl) (ed_ic (ed_var 1) rfl) (.inr h1.2)) (ed_muln (ed_ic (ed_var 1) rfl) (ed_ic (ed_var 0) rfl) (.inl h1.1))) rfl
theorem sc_minus : FnScope ["one", "other"] ["one", "other"] (defScope (top 13)) := ⟨rfl, rfl, rfl, by decide +kernel, rfl, by decide +kernel, by decide +kernel⟩
def R_minus (ds : List PyData) (d : PyData) : Prop := ∃ p q : Fr, ds = [eFr p, eFr q] ∧ Small q ∧ fless p q = false ∧ 0 < p.2 * q.2 ∧ p.2 * q.2 < 1073741824 ∧ d = eFr (fminus p q)
theorem c_minus (O : Own K mg "minus" (defD "minus" (top 13)) []) (c1 : Cal P w K mg base 2 "fraction_of" (PSp K R_fraction_of) []) (c2 : Cal P w K mg base 1 "is_less" (PSp K R_is_less) []) : Cal P w K mg base 3 "minus" (PSp K R_minus) [] := by
  refine cal_pure O sc_minus ?_ (by decide) (fun _ _ _ _ _ _ us hl => match us, hl with | [_, _], _ => rfl) ?_
  · rintro ds d ⟨p, q, rfl, _⟩; rfl
  · rintro f cdv A outer s H E hr ds d ⟨p, q, rfl, h1, h2, h3, h4, rfl⟩
    refine sjs_skip (td_val (ed_call c2 hr (ad_consd (ed_var 0) (ad_consd (ed_var 1) ad_nild)) ⟨p, q, rfl, h1, by rw [h2]⟩)) ?_
    have le : q.1 * p.2 ≤ p.1 * q.2 := by
      have z := of_decide_eq_false h2
      omega
    exact sjs_ret (ed_call c1 hr (ad_consd (ed_subn (ed_muln (ed_ic (ed_var 0) rfl) (ed_ic (ed_var 1) rfl) (.inr h1.2)) (ed_muln (ed_ic (ed_var 1) rfl) (ed_ic (ed_var 0) rfl) (.inl h1.1)) le) (ad_consd (ed_muln (ed_ic (ed_var 0) rfl) (ed_ic (ed_var 1) rfl) (.inr h1.2)) ad_nild)) ⟨_, _, rfl, h3, h4, rfl⟩) rfl
theorem sc_lesser : FnScope ["one", "other"] ["one", "other"] (defScope (top 14)) := ⟨rfl, rfl, rfl, by decide +kernel, rfl, by decide +kernel, by decide +kernel⟩
def R_lesser (ds : List PyData) (d : PyData) : Prop := ∃ p q : Fr, ds = [eFr p, eFr q] ∧ Small q ∧ d = eFr (flesser p q)
theorem c_lesser (O : Own K mg "lesser" (defD "lesser" (top 14)) []) (c1 : Cal P w K mg base 1 "is_less" (PSp K R_is_less) []) : Cal P w K mg base 2 "lesser" (PSp K R_lesser) [] := by
  refine cal_pure O sc_lesser ?_ (by decide) (fun _ _ _ _ _ _ us hl => match us, hl with | [_, _], _ => rfl) ?_
  · rintro ds d ⟨p, q, rfl, _⟩; rfl
  · rintro f cdv A outer s H E hr ds d ⟨p, q, rfl, h1, rfl⟩
    refine sjs_ret (ev_if (td_val (ed_call c1 hr (ad_consd (ed_var 0) (ad_consd (ed_var 1) ad_nild)) ⟨p, q, rfl, h1, rfl⟩)) (fun h => ed_is (ed_var 0) ?_) fun h => ed_is (ed_var 1) ?_) rfl
    · unfold flesser; rw [h]; rfl
    · unfold flesser; rw [h]; rfl
/-! ### beside WHOLE -/
def R_is_lessW (a : Addr) (xs : List Sl) (d : PyData) : Prop := ∃ p : Fr, xs = [.d (eFr p), .r (.ref a)] ∧ d = .bool (fless p (1, 1))
theorem plnW {a : Addr} {p : Fr} : ∀ y ∈ ([.d (eFr p), .r (.ref a)] : List Sl), Pln y := by
  intro y hy
  rcases List.mem_cons.mp hy with rfl | hy
  · exact trivial
  · rw [List.mem_singleton.mp hy]; exact trivial
theorem c_is_lessW {a : Addr} (W : Wh K mg a) (O : Own K mg "is_less" (defD "is_less" (top 12)) []) : Cal P w K mg base 1 "is_less" (ASp K (R_is_lessW a)) [] := by
  refine cal_args O sc_is_less ?_ (by decide) (fun _ _ _ _ _ _ us hl => match us, hl with | [_, _], _ => rfl) ?_
  · rintro ds d ⟨p, rfl, _⟩; exact ⟨rfl, plnW⟩
  · rintro f cdv A outer s H E hr ds d ⟨p, rfl, rfl⟩
    exact sjs_ret (ed_ltn (ed_muln (j := 1) (ed_ic (ed_var 0) rfl) (ed_kix (ev_raw 1) W.q rfl) (.inr (by decide))) (ed_muln (i := 1) (ed_kix (ev_raw 1) W.q rfl) (ed_ic (ed_var 0) rfl) (.inl (by decide)))) rfl
def R_minusW (a : Addr) (xs : List Sl) (d : PyData) : Prop := ∃ p : Fr, xs = [.d (eFr p), .r (.ref a)] ∧ fless p (1, 1) = false ∧ 0 < p.2 ∧ p.2 < 1073741824 ∧ d = eFr (fminus p (1, 1))
theorem c_minusW {a : Addr} (W : Wh K mg a) (O : Own K mg "minus" (defD "minus" (top 13)) []) (c1 : Cal P w K mg base 2 "fraction_of" (PSp K R_fraction_of) []) (c2 : Cal P w K mg base 1 "is_less" (ASp K (R_is_lessW a)) []) : Cal P w K mg base 3 "minus" (ASp K (R_minusW a)) [] := by
  refine cal_args O sc_minus ?_ (by decide) (fun _ _ _ _ _ _ us hl => match us, hl with | [_, _], _ => rfl) ?_
  · rintro ds d ⟨p, rfl, _⟩; exact ⟨rfl, plnW⟩
  · rintro f cdv A outer s H E hr ds d ⟨p, rfl, h2, h3, h4, rfl⟩
    refine sjs_skip (td_val (ed_callA c2 hr (ad_cons (ed_var 0) (ad_cons (ev_raw 1) ad_nil)) ⟨p, rfl, by rw [h2]⟩)) ?_
    have le : 1 * p.2 ≤ p.1 * 1 := by
      have z := of_decide_eq_false h2
      omega
    exact sjs_ret (ed_call c1 hr (ad_consd (ed_subn (ed_muln (j := 1) (ed_ic (ed_var 0) rfl) (ed_kix (ev_raw 1) W.q rfl) (.inr (by decide))) (ed_muln (i := 1) (ed_kix (ev_raw 1) W.q rfl) (ed_ic (ed_var 0) rfl) (.inl (by decide))) le) (ad_consd (ed_muln (j := 1) (ed_ic (ed_var 0) rfl) (ed_kix (ev_raw 1) W.q rfl) (.inr (by decide))) ad_nild)) ⟨_, p.2 * 1, rfl, by omega, by omega, rfl⟩) rfl
end
end TC
set_option Elab.async false
set_option linter.all false
set_option maxRecDepth 100000
set_option maxHeartbeats 4000000
/-! Defs, part 2: steps' forms, a setting's keys. -/
namespace TC
open PySem L2
section
variable {P : Program} {w : World} {K : PySem.W.Frag} {mg : Str → Option Value} {base : Heap}
theorem sc_is_lane : FnScope ["thing"] ["thing"] (defScope (top 16)) := ⟨rfl, rfl, rfl, by decide +kernel, rfl, by decide +kernel, by decide +kernel⟩
def R_is_lane (ds : List PyData) (d : PyData) : Prop := ∃ l : Nat, ds = [dI l] ∧ l < 2 ∧ d = .bool true
theorem c_is_lane (O : Own K mg "is_lane" (defD "is_lane" (top 16)) []) (c1 : Cal P w K mg base 1 "is_number" (PSp K R_is_number) []) : Cal P w K mg base 2 "is_lane" (PSp K R_is_lane) [] := by
  refine cal_pure O sc_is_lane ?_ (by decide) (fun _ _ _ _ _ _ us hl => match us, hl with | [_], _ => rfl) ?_
  · rintro ds d ⟨n, rfl, _⟩; rfl
  · rintro f cdv A outer s H E hr ds d ⟨n, rfl, h, rfl⟩
    exact sjs_ret (ed_andB (k := true) (m := true) (ed_call c1 hr (ad_consd (ed_var 0) ad_nild) ⟨n, rfl, rfl⟩) fun _ => ed_one (ed_is (ed_ltn (ed_var 0) ed_k) (by simp [h]))) rfl
theorem sc_is_going : FnScope ["rest"] ["rest"] (defScope (top 17)) := ⟨rfl, rfl, rfl, by decide +kernel, rfl, by decide +kernel, by decide +kernel⟩
def R_is_going (ds : List PyData) (d : PyData) : Prop := ∃ c : Nat, ds = [.tuple [dI c]] ∧ d = .bool true
theorem c_is_going (O : Own K mg "is_going" (defD "is_going" (top 17)) []) (c1 : Cal P w K mg base 2 "are_numbers" (PSp K R_are_numbers) []) : Cal P w K mg base 3 "is_going" (PSp K R_is_going) [] := by
  refine cal_pure O sc_is_going ?_ (by decide) (fun _ _ _ _ _ _ us hl => match us, hl with | [_], _ => rfl) ?_
  · rintro ds d ⟨n, rfl, _⟩; rfl
  · rintro f cdv A outer s H E hr ds d ⟨c, rfl, rfl⟩
    exact sjs_ret (ed_call c1 hr (ad_consd (ed_var 0) (ad_consd ed_k ad_nild)) ⟨[c], 1, rfl, by simp, by simp⟩) rfl
theorem sc_is_handling : FnScope ["rest"] ["rest"] (defScope (top 18)) := ⟨rfl, rfl, rfl, by decide +kernel, rfl, by decide +kernel, by decide +kernel⟩
def R_is_handling (ds : List PyData) (d : PyData) : Prop := ∃ l k : Nat, ds = [.tuple [dI l, dI k]] ∧ l < 2 ∧ d = .bool true
theorem c_is_handling (O : Own K mg "is_handling" (defD "is_handling" (top 18)) []) (c1 : Cal P w K mg base 2 "are_numbers" (PSp K R_are_numbers) []) (c2 : Cal P w K mg base 2 "is_lane" (PSp K R_is_lane) []) : Cal P w K mg base 3 "is_handling" (PSp K R_is_handling) [] := by
  refine cal_pure O sc_is_handling ?_ (by decide) (fun _ _ _ _ _ _ us hl => match us, hl with | [_], _ => rfl) ?_
  · rintro ds d ⟨l, k, rfl, _⟩; rfl
  · rintro f cdv A outer s H E hr ds d ⟨l, k, rfl, h, rfl⟩
    exact sjs_ret (ed_andB (k := true) (m := true) (ed_call c1 hr (ad_consd (ed_var 0) (ad_consd ed_k ad_nild)) ⟨[l, k], 2, rfl, by simp, by simp⟩) fun _ => ed_one (ed_call c2 hr (ad_consd (ed_ic (ed_var 0) rfl) ad_nild) ⟨l, rfl, h, rfl⟩)) rfl
theorem sc_is_tearing : FnScope ["rest"] ["rest"] (defScope (top 19)) := ⟨rfl, rfl, rfl, by decide +kernel, rfl, by decide +kernel, by decide +kernel⟩
def R_is_tearing (ds : List PyData) (d : PyData) : Prop := ∃ l : Nat, ds = [.tuple [dI l]] ∧ l < 2 ∧ d = .bool true
theorem c_is_tearing (T : Bl mg) (O : Own K mg "is_tearing" (defD "is_tearing" (top 19)) []) (c2 : Cal P w K mg base 2 "is_lane" (PSp K R_is_lane) []) : Cal P w K mg base 3 "is_tearing" (PSp K R_is_tearing) [] := by
  refine cal_pure O sc_is_tearing ?_ (by decide) (fun _ _ _ _ _ _ us hl => match us, hl with | [_], _ => rfl) ?_
  · rintro ds d ⟨l, rfl, _⟩; rfl
  · rintro f cdv A outer s H E hr ds d ⟨l, rfl, h, rfl⟩
    exact sjs_ret (ed_andB (k := true) (m := true) (ed_is (ed_eqn (ed_lenT T.len (ed_var 0)) ed_k) (by simp)) fun _ => ed_one (ed_call c2 hr (ad_consd (ed_ic (ed_var 0) rfl) ad_nild) ⟨l, rfl, h, rfl⟩)) rfl
theorem sc_is_bare : FnScope ["rest"] ["rest"] (defScope (top 20)) := ⟨rfl, rfl, rfl, by decide +kernel, rfl, by decide +kernel, by decide +kernel⟩
def R_is_bare (ds : List PyData) (d : PyData) : Prop := ds = [.tuple []] ∧ d = .bool true
theorem c_is_bare (O : Own K mg "is_bare" (defD "is_bare" (top 20)) []) : Cal P w K mg base 1 "is_bare" (PSp K R_is_bare) [] := by
  refine cal_pure O sc_is_bare ?_ (by decide) (fun _ _ _ _ _ _ us hl => match us, hl with | [_], _ => rfl) ?_
  · rintro ds d ⟨rfl, _⟩; rfl
  · rintro f cdv A outer s H E hr ds d ⟨rfl, rfl⟩
    have z : Lay 1 (.tuple []) := lay_tup lay_nil
    exact sjs_ret (ed_is (ed_eqD (roomU64 hr) (ed_var 0) (ed_tup ad_nild) z.shaped z.shaped) (by rw [z.rf])) rfl
/-! ### is_step -/
theorem sc_is_step : FnScope ["thing", "look"] ["thing"] (defScope (top 22)) := ⟨rfl, rfl, rfl, by decide +kernel, rfl, by decide +kernel, by decide +kernel⟩
def R_is_step (ds : List PyData) (d : PyData) : Prop := ∃ st : Step, ds = [eStep st] ∧ st.ok ∧ d = .bool true
def kvSteps : List (Str × Str) := [("go", "is_going"), ("get", "is_handling"), ("lose", "is_handling"), ("double", "is_handling"), ("tick", "is_bare"), ("tear", "is_tearing"), ("fall", "is_bare")]
def Step.word : Step → Str
  | .go _ => "go" | .get _ _ => "get" | .lose _ _ => "lose" | .double _ _ => "double" | .tick => "tick" | .tear _ => "tear" | .fall => "fall"
def Step.rest : Step → List PyData
  | .go c => [dI c] | .get l k => [dI l, dI k] | .lose l k => [dI l, dI k] | .double l k => [dI l, dI k] | .tick => [] | .tear l => [dI l] | .fall => []
def Step.check : Step → Str
  | .go _ => "is_going" | .get _ _ => "is_handling" | .lose _ _ => "is_handling" | .double _ _ => "is_handling" | .tick => "is_bare" | .tear _ => "is_tearing" | .fall => "is_bare"
theorem Step.check_mem (st : Step) : (st.word, st.check) ∈ kvSteps := by cases st <;> simp [kvSteps, Step.word, Step.check]
theorem eStep_eq (st : Step) : eStep st = .tuple (.str st.word :: st.rest) := by cases st <;> rfl
theorem c_is_step (T : Bl mg) (TS : Tbl K w mg "STEPS" kvSteps) (O : Own K mg "is_step" (defD "is_step" (top 22)) []) (c1 : Cal P w K mg base 3 "is_going" (PSp K R_is_going) []) (c2 : Cal P w K mg base 3 "is_handling" (PSp K R_is_handling) []) (c3 : Cal P w K mg base 1 "is_bare" (PSp K R_is_bare) []) (c4 : Cal P w K mg base 3 "is_tearing" (PSp K R_is_tearing) []) :
    Cal P w K mg base 4 "is_step" (PSp K R_is_step) [] := by
  refine cal_pure O sc_is_step ?_ (by decide) (fun _ _ _ _ _ _ us hl => match us, hl with | [_], _ => rfl) ?_
  · rintro ds d ⟨st, rfl, _⟩; rfl
  · rintro f cdv A outer s H E hr ds d ⟨st, rfl, ok, rfl⟩
    rw [eStep_eq]
    refine sjs_skip ((TW.td (k := false) (tw_or (k := false) (m := false) (td_not (k := true) (td_val (ed_isi "tuple" T.isinstance (ed_var 0) (ev_ty T.tuple bt_tuple) kt_tt))) fun _ => tw_or (k := false) (m := false) (td_is (td_eqn (ed_lenT T.len (ed_var 0)) ed_k) (by simp)) fun _ =>
      tw_or (k := false) (m := false) (td_not (k := true) (td_val (ed_isi "str" T.isinstance (ed_ic (ed_var 0) rfl) (ev_ty T.str bt_str) kt_ss))) fun _ => tw_or1 (td_inTab TS st.check_mem (ed_ic (ed_var 0) rfl))))) ?_
    have go : ∀ {x y : Str} {k : Nat} {R : List PyData → PyData → Prop}, st.word = x → (x, y) ∈ kvSteps → Cal P w K mg base k y (PSp K R) [] → k ≤ 3 → R [.tuple st.rest] (.bool true) →
        SJs (BX P w K mg base ["thing", "look"] "is_step" (defScope (top 22)) f cdv A outer s H E) [.d (.tuple (.str st.word :: st.rest)), .no] ((defBody (top 22)).drop 1) (fun _ => PyData.bool true = .none) (fun d' _ => d' = .d (.bool true)) := by
      rintro x y k R rfl hm cl hk hR
      obtain ⟨fa, m⟩ := TS.f hm
      refine sjs_set 1 (ev_tab TS hm m (ed_ic (ed_var 0) rfl)) ?_ sc_is_step.nd
      exact sjs_ret (ed_callLoc 1 cl m hr (ad_consd (ed_from (ed_var 0)) ad_nild) (by exact hR) rfl hk) rfl
    cases st with
    | go c => exact go (x := "go") (y := "is_going") rfl (by simp [kvSteps]) c1 (by decide) ⟨c, rfl, rfl⟩
    | get l k => exact go (x := "get") (y := "is_handling") rfl (by simp [kvSteps]) c2 (by decide) ⟨l, k, rfl, ok, rfl⟩
    | lose l k => exact go (x := "lose") (y := "is_handling") rfl (by simp [kvSteps]) c2 (by decide) ⟨l, k, rfl, ok, rfl⟩
    | double l k => exact go (x := "double") (y := "is_handling") rfl (by simp [kvSteps]) c2 (by decide) ⟨l, k, rfl, ok, rfl⟩
    | tick => exact go (x := "tick") (y := "is_bare") rfl (by simp [kvSteps]) c3 (by decide) ⟨rfl, rfl⟩
    | tear l => exact go (x := "tear") (y := "is_tearing") rfl (by simp [kvSteps]) c4 (by decide) ⟨l, rfl, ok, rfl⟩
    | fall => exact go (x := "fall") (y := "is_bare") rfl (by simp [kvSteps]) c3 (by decide) ⟨rfl, rfl⟩
end
end TC
set_option linter.all false
/-! The mirror, part 2: what the program's functions give, in plain Lean. -/
namespace TC
open PySem

/-! ### states -/
def begunS (S : Setting) : State := ⟨0, S.callers.map fun cs => ⟨cs.most, 0, cs.groups.map fun _ => ⟨0, []⟩⟩, [[], []], ⟨[], [], []⟩⟩
def heardOf : List Call → Nat
  | [] => 0
  | c :: r => match c.ans with
    | some _ => heardOf r + 1
    | none => 0
def grp (st : State) (c g : Nat) : Option Grp := st.callers[c]?.bind (·.groups[g]?)
def lenS (S : Setting) (c g : Nat) : Nat := ((grpS S c g).getD []).length
/-- as many callers and groups as the setting -/
structure Shp (S : Setting) (st : State) : Prop where
  nc : st.callers.length = S.callers.length
  ng : ∀ (c : Nat) (clr : Clr) (cs : ClrS), st.callers[c]? = some clr → S.callers[c]? = some cs → clr.groups.length = cs.groups.length
theorem Shp.clr {S : Setting} {st : State} (h : Shp S st) {c : Nat} {cs : ClrS} (e : S.callers[c]? = some cs) : ∃ clr, st.callers[c]? = some clr ∧ clr.groups.length = cs.groups.length := by
  have hl := (List.getElem?_eq_some_iff.mp e).1
  have hl' : c < st.callers.length := by rw [h.nc]; exact hl
  exact ⟨_, List.getElem?_eq_getElem hl', h.ng c _ cs (List.getElem?_eq_getElem hl') e⟩
theorem Shp.clrS {S : Setting} {st : State} (h : Shp S st) {c : Nat} {clr : Clr} (e : st.callers[c]? = some clr) : ∃ cs, S.callers[c]? = some cs ∧ clr.groups.length = cs.groups.length := by
  have hl := (List.getElem?_eq_some_iff.mp e).1
  have hl' : c < S.callers.length := by rw [← h.nc]; exact hl
  exact ⟨_, List.getElem?_eq_getElem hl', h.ng c clr _ e (List.getElem?_eq_getElem hl')⟩
/-- every call has its answer -/
def Thr (S : Setting) (st : State) : Prop := ∀ c g l G, grpS S c g = some l → grp st c g = some G → l.length ≤ G.heard
noncomputable def thr (S : Setting) (st : State) : Bool := @decide (Thr S st) (Classical.propDecidable _)
theorem thr_iff {S : Setting} {st : State} : thr S st = true ↔ Thr S st := by
  unfold thr
  exact @decide_eq_true_iff (Thr S st) (Classical.propDecidable _)
theorem thr_not {S : Setting} {st : State} (h : ¬ Thr S st) : thr S st = false := by
  cases e : thr S st with
  | false => rfl
  | true => exact absurd (thr_iff.mp e) h
def callAt (st : State) (k : Key) : Option Call := (grp st k.c k.g).bind (·.calls[k.n]?)
def ansHad (st : State) (k : Key) : Option Ans := (callAt st k).bind (·.ans)
/-! ### what is due -/
inductive Due where
  | nothing | first (k : Key) (lane : Nat) | further (k : Key) (lane : Nat)
def eDue : Due → PyData
  | .nothing => .tuple [.str "nothing"]
  | .first k l => .tuple [.str "first", eKey k, dI l]
  | .further k l => .tuple [.str "further", eKey k, dI l]
def firstFrom (S : Setting) (c : Nat) : Nat → List Grp → Option Key
  | _, [] => none
  | g, G :: r => if G.calls.length < min (lenS S c g) (G.heard + S.window) then some ⟨c, g, G.calls.length⟩ else firstFrom S c (g + 1) r
def furCalls (S : Setting) (clock c g : Nat) : Nat → List Call → Option (Key × Nat)
  | _, [] => none
  | n, k :: r => match k.ans with
    | none => if k.last + S.patience ≤ clock then some (⟨c, g, n⟩, k.lane) else furCalls S clock c g (n + 1) r
    | some _ => furCalls S clock c g (n + 1) r
def furFrom (S : Setting) (clock c : Nat) : Nat → List Grp → Option (Key × Nat)
  | _, [] => none
  | g, G :: r => match furCalls S clock c g 0 G.calls with
    | some x => some x
    | none => furFrom S clock c (g + 1) r
def firstDue (S : Setting) (st : State) (c : Nat) : Option Key := (st.callers[c]?).bind fun clr => firstFrom S c 0 clr.groups
def furDue (S : Setting) (st : State) (c : Nat) : Option (Key × Nat) := (st.callers[c]?).bind fun clr => furFrom S st.clock c 0 clr.groups
def purseOf (st : State) (c : Nat) : Fr := ((st.callers[c]?).map (·.purse)).getD (0, 1)
def triesOf (st : State) (c : Nat) : Nat := ((st.callers[c]?).map (·.tries)).getD 0
def whole : Fr := (1, 1)
def dueS (S : Setting) (st : State) (c : Nat) : Due :=
  match firstDue S st c with
  | some k => .first k (triesOf st c % 2)
  | none => if fless (purseOf st c) whole then .nothing else match furDue S st c with
    | some (k, l) => .further k (1 - l)
    | none => .nothing
def eOKey : Option Key → PyData
  | none => .none
  | some k => eKey k
def eOFur : Option (Key × Nat) → PyData
  | none => .none
  | some p => .tuple [eKey p.1, dI p.2]
/-! ### sending -/
def withCaller (st : State) (c : Nat) (row : Clr) : State := { st with callers := st.callers.set c row }
def withCalls (gs : List Grp) (g : Nat) (cs : List Call) : List Grp := gs.set g ⟨heardOf cs, cs⟩
def lane (st : State) (l : Nat) : List Letter := st.lanes[l]?.getD []
def sentS (st : State) (l : Nat) (x : Letter) : State := { st with lanes := st.lanes.set l (lane st l ++ [x]) }
def callSD (S : Setting) (k : Key) : CallS := (callS S k).getD ⟨"", 0, 0⟩
def noGrp : Grp := ⟨0, []⟩
def grpD (st : State) (c g : Nat) : Grp := (grp st c g).getD noGrp
def noCall : Call := ⟨0, 0, 0, none⟩
def callD (st : State) (k : Key) : Call := (callAt st k).getD noCall
def askOf (S : Setting) (st : State) (k : Key) : Letter := .ask k (callSD S k).cell (callSD S k).number ((callD st k).first + (callSD S k).span) (grpD st k.c k.g).heard
def noClr : Clr := ⟨(0, 1), 0, []⟩
def clrD (st : State) (c : Nat) : Clr := (st.callers[c]?).getD noClr
def noClrS : ClrS := ⟨[], (0, 1), (0, 1)⟩
def clrSD (S : Setting) (c : Nat) : ClrS := (S.callers[c]?).getD noClrS
def triedS (S : Setting) (st : State) (c : Nat) (k : Key) (l : Nat) (fst : Bool) : State :=
  let clr := clrD st c
  let calls := (grpD st c k.g).calls
  let purse := if fst then flesser (fplus clr.purse (clrSD S c).rate) (clrSD S c).most else fminus clr.purse whole
  let calls' := if fst then calls ++ [⟨st.clock, st.clock, l, none⟩] else calls.set k.n ⟨(callD st k).first, st.clock, l, none⟩
  withCaller st c ⟨purse, clr.tries + 1, withCalls clr.groups k.g calls'⟩
def goS (S : Setting) (st : State) (c : Nat) : State :=
  match dueS S st c with
  | .nothing => st
  | .first k l => sentS (triedS S st c k l true) l (askOf S (triedS S st c k l true) k)
  | .further k l => sentS (triedS S st c k l false) l (askOf S (triedS S st c k l false) k)
/-! ### hearing -/
def isNew (st : State) (k : Key) : Bool := match callAt st k with
  | some x => x.ans.isNone
  | none => false
def heardTell (st : State) (k : Key) (a : Ans) : State :=
  if isNew st k then
    let clr := clrD st k.c
    let calls := (grpD st k.c k.g).calls
    withCaller st k.c ⟨clr.purse, clr.tries, withCalls clr.groups k.g (calls.set k.n { callD st k with ans := some a })⟩
  else st
end TC
set_option Elab.async false
set_option linter.all false
set_option maxRecDepth 100000
set_option maxHeartbeats 4000000
/-! Defs, part 3: a setting's pairs and keys. -/
namespace TC
open PySem L2
section
variable {P : Program} {w : World} {K : PySem.W.Frag} {mg : Str → Option Value} {base : Heap}
/-! ### groups_of -/
theorem sc_groups_of : FnScope ["setting", "found", "caller", "groups", "rate", "most", "group"] ["setting"] (defScope (top 23)) := ⟨rfl, rfl, rfl, by decide +kernel, rfl, by decide +kernel, by decide +kernel⟩
def R_groups_of (ds : List PyData) (d : PyData) : Prop := ∃ S : Setting, WfS S ∧ ds = [eSetting S] ∧ d = .tuple ((pairsS S).map ePair)
theorem pairsFrom_app : ∀ (l : List ClrS) (cs : ClrS) (i : Nat), pairsFrom i (l ++ [cs]) = pairsFrom i l ++ (List.range cs.groups.length).map fun g => (i + l.length, g)
  | [], cs, i => by simp [pairsFrom]
  | x :: r, cs, i => by
    have h : i + 1 + r.length = i + (r.length + 1) := by omega
    simp only [List.cons_append, pairsFrom, pairsFrom_app r cs (i + 1), List.append_assoc, List.length_cons, h]
theorem c_groups_of {g : Str} (T : Bl mg) (O : Own K mg g (defD "groups_of" (top 23)) []) : Cal P w K mg base 1 g (PSp K R_groups_of) [] := by
  refine cal_pure O sc_groups_of ?_ (by decide) (fun _ _ _ _ _ _ us hl => match us, hl with | [_], _ => rfl) ?_
  · rintro ds d ⟨S, _, rfl, _⟩; rfl
  · rintro f cdv A outer s H E hr ds d ⟨S, wf, rfl, rfl⟩
    refine sjs_set 1 (ev_lst ad_nild) ?_ sc_groups_of.nd
    refine sjs_cons (sj_for (it_enum T.enumerate (ed_ic (ed_var 0) rfl)) (N := fun ρ => ∃ a b c e f, ρ = [.d (eSetting S), .l ((pairsS S).map ePair), a, b, c, e, f]) (fun i ρ => ∃ a b c e f, ρ = [.d (eSetting S), .l ((pairsFrom 0 (S.callers.take i)).map ePair), a, b, c, e, f]) ⟨_, _, _, _, _, rfl⟩ ?_ ?_ rfl PassesOwn.never) ?_
    · rintro i d ρ hd ⟨a, b, c, e, f, rfl⟩
      obtain ⟨cs, hc, rfl⟩ := enumM_at hd
      have hm : cs ∈ S.callers := List.mem_of_getElem? hc
      have hg := wf.ng cs hm
      refine ⟨[(2, dI i), (3, .tuple (cs.groups.map eGrpS)), (4, eFr cs.rate), (5, eFr cs.most)], gd_tup rfl (gds_cons (gd_name 2 sc_groups_of.nd) (gds_cons (gd_tup rfl (gds_cons (gd_name 3 sc_groups_of.nd) (gds_cons (gd_name 4 sc_groups_of.nd) (gds_cons (gd_name 5 sc_groups_of.nd) gds_nil))) rfl) gds_nil)) rfl, ?_⟩
      refine sjs_ext (es := (List.range cs.groups.length).map fun g => ePair (i, g)) 1 (ev_lcE (own := [("group", 6)]) (fun d => .tuple [dI i, d]) (it_range (n := cs.groups.length) T.range (ed_is (ed_lenT T.len (ed_var 3)) (by rw [List.length_map])) (by omega)).ic rfl sc_groups_of.nd (blkOk_by (N := ["setting", "found", "caller", "groups", "rate", "most", "group"]) (sc := defScope (top 23)) (by decide +kernel)) (by rw [rangeD_len]; exact Nat.le_trans (by omega) sz) (range_map fun g _ => rfl) (fun d hd => ?_)) rfl ?_ (sjs_nil ?_) (slot_name 1)
      · obtain ⟨g, _, rfl⟩ := range_mem hd
        exact ⟨[(6, dI g)], fun _ _ _ _ _ => gd_name 6 sc_groups_of.nd, fun p hp => by rw [List.mem_singleton.mp hp]; exact List.mem_singleton.mpr rfl, fun _ _ _ _ _ => ed_tup (ad_consd (ed_var 2) (ad_consd (ed_var 6) ad_nild))⟩
      · have h1 := pairsFrom_len (S.callers.take i) 0 fun c hc => wf.ng c (List.mem_of_mem_take hc)
        have h2 := wf.nc
        have h3 := sz
        rw [List.length_map, List.length_map, List.length_range]
        rw [List.length_take] at h1
        omega
      · have e : (pairsFrom 0 (S.callers.take (i + 1))).map ePair = (pairsFrom 0 (S.callers.take i)).map ePair ++ (List.range cs.groups.length).map fun g => ePair (i, g) := by
          rw [take_snoc hc, pairsFrom_app, List.map_append, List.map_map, List.length_take, Nat.zero_add, Nat.min_eq_left (Nat.le_of_lt (List.getElem?_eq_some_iff.mp hc).1)]
          rfl
        rw [e]
        exact ⟨_, _, _, _, _, rfl⟩
    · rintro ρ ⟨a, b, c, e, f, rfl⟩
      exact ⟨a, b, c, e, f, by rw [enumD_len, List.length_map, List.take_length]; rfl⟩
    · rintro ρ ⟨a, b, c, e, f, rfl⟩
      exact sjs_ret (ed_tupOf T.tuple (er_var 1)) rfl
/-! ### group_of .. call_of -/
theorem sc_group_of : FnScope ["setting", "pair"] ["setting", "pair"] (defScope (top 25)) := ⟨rfl, rfl, rfl, by decide +kernel, rfl, by decide +kernel, by decide +kernel⟩
def R_group_of (ds : List PyData) (d : PyData) : Prop := ∃ (S : Setting) (c g : Nat) (l : List CallS), WfS S ∧ ds = [eSetting S, ePair (c, g)] ∧ grpS S c g = some l ∧ d = eGrpS l
theorem lay_pair (p : Pair) : Lay 1 (ePair p) := lay_tup (lay_cons (lay_I _) (lay_cons (lay_I _) lay_nil))
theorem lay_key (k : Key) : Lay 1 (eKey k) := lay_tup (lay_cons (lay_I _) (lay_cons (lay_I _) (lay_cons (lay_I _) lay_nil)))
theorem grpS_at {S : Setting} {c g : Nat} {l : List CallS} (h : grpS S c g = some l) : ∃ cs, S.callers[c]? = some cs ∧ cs.groups[g]? = some l := by
  unfold grpS at h
  cases e : S.callers[c]? with
  | none => rw [e] at h; cases h
  | some cs => rw [e] at h; exact ⟨cs, rfl, h⟩
theorem callS_at {S : Setting} {k : Key} {x : CallS} (h : callS S k = some x) : ∃ l, grpS S k.c k.g = some l ∧ l[k.n]? = some x := by
  unfold callS at h
  cases e : grpS S k.c k.g with
  | none => rw [e] at h; cases h
  | some l => rw [e] at h; exact ⟨l, rfl, h⟩
theorem c_group_of (T : Bl mg) (O : Own K mg "group_of" (defD "group_of" (top 25)) []) (c1 : Cal P w K mg base 2 "are_numbers" (PSp K R_are_numbers) []) (c2 : Cal P w K mg base 1 "groups_of_settings" (PSp K R_groups_of) []) : Cal P w K mg base 3 "group_of" (PSp K R_group_of) [] := by
  refine cal_pure O sc_group_of ?_ (by decide) (fun _ _ _ _ _ _ us hl => match us, hl with | [_, _], _ => rfl) ?_
  · rintro ds d ⟨S, c, g, l, _, rfl, _⟩; rfl
  · rintro f cdv A outer s H E hr ds d ⟨S, c, g, l, wf, rfl, hl, rfl⟩
    obtain ⟨cs, h1, h2⟩ := grpS_at hl
    refine sjs_skip ((TW.td (k := false) (tw_or (k := false) (m := false) (td_not (k := true) (td_val (ed_call c1 hr (ad_consd (ed_var 1) (ad_consd ed_k ad_nild)) ⟨[c, g], 2, rfl, by simp, by simp⟩))) fun _ => tw_or1 (td_niT (roomU hr) (ed_var 1) (ed_call c2 hr (ad_consd (ed_var 0) ad_nild) ⟨S, wf, rfl, rfl⟩) (lay_pair (c, g)) (lay_map fun p _ => lay_pair p) (List.mem_map.mpr ⟨(c, g), mem_pairsS hl, rfl⟩))))) ?_
    exact sjs_ret (ed_xm eGrpS (ed_ic (ed_xm eClrS (ed_ic (ed_var 0) rfl) (ed_ic (ed_var 1) rfl) h1) rfl) (ed_ic (ed_var 1) rfl) h2) rfl
theorem sc_keys_of : FnScope ["setting", "found", "pair", "n"] ["setting"] (defScope (top 26)) := ⟨rfl, rfl, rfl, by decide +kernel, rfl, by decide +kernel, by decide +kernel⟩
def R_keys_of (ds : List PyData) (d : PyData) : Prop := ∃ S : Setting, WfS S ∧ ds = [eSetting S] ∧ d = .tuple ((keysS S).map eKey)
def keysF (S : Setting) (ps : List Pair) : List Key := ps.flatMap fun p => (List.range (lenS S p.1 p.2)).map fun n => ⟨p.1, p.2, n⟩
theorem keysF_len {S : Setting} (wf : WfS S) : ∀ ps : List Pair, (keysF S ps).length ≤ 4 * ps.length
  | [] => by simp [keysF]
  | p :: r => by
    have h1 := keysF_len wf r
    have h2 : lenS S p.1 p.2 ≤ 4 := by
      unfold lenS
      cases e : grpS S p.1 p.2 with
      | none => exact Nat.zero_le _
      | some l => exact wf.grp e
    unfold keysF at h1 ⊢
    rw [List.flatMap_cons, List.length_append, List.length_map, List.length_range, List.length_cons]
    omega
theorem mem_pairs_grp {S : Setting} {p : Pair} (h : p ∈ pairsS S) : ∃ l, grpS S p.1 p.2 = some l := by
  obtain ⟨j, cs, h1, h2, h3⟩ := mem_pairsFrom.mp (show (p.1, p.2) ∈ pairsFrom 0 S.callers from h)
  refine ⟨cs.groups[p.2], ?_⟩
  unfold grpS
  rw [h1, Nat.zero_add, h2]
  exact List.getElem?_eq_getElem h3
theorem c_keys_of (T : Bl mg) (O : Own K mg "keys_of" (defD "keys_of" (top 26)) []) (c1 : Cal P w K mg base 1 "groups_of_settings" (PSp K R_groups_of) []) (c2 : Cal P w K mg base 3 "group_of" (PSp K R_group_of) []) : Cal P w K mg base 4 "keys_of" (PSp K R_keys_of) [] := by
  refine cal_pure O sc_keys_of ?_ (by decide) (fun _ _ _ _ _ _ us hl => match us, hl with | [_], _ => rfl) ?_
  · rintro ds d ⟨S, _, rfl, _⟩; rfl
  · rintro f cdv A outer s H E hr ds d ⟨S, wf, rfl, rfl⟩
    refine sjs_set 1 (ev_lst ad_nild) ?_ sc_keys_of.nd
    refine sjs_cons (sj_for (it_tup (ed_call c1 hr (ad_consd (ed_var 0) ad_nild) ⟨S, wf, rfl, rfl⟩)) (N := fun ρ => ∃ a b, ρ = [.d (eSetting S), .l ((keysS S).map eKey), a, b]) (fun i ρ => ∃ a b, ρ = [.d (eSetting S), .l ((keysF S ((pairsS S).take i)).map eKey), a, b]) ⟨_, _, rfl⟩ ?_ ?_ rfl PassesOwn.never) ?_
    · rintro i d ρ hd ⟨a, b, rfl⟩
      obtain ⟨p, hp, rfl⟩ := map_at hd
      obtain ⟨l, hl⟩ := mem_pairs_grp (List.mem_of_getElem? hp)
      have hz := wf.grp hl
      have ez : lenS S p.1 p.2 = l.length := by unfold lenS; rw [hl]; rfl
      refine ⟨[(2, ePair p)], gd_name 2 sc_keys_of.nd, ?_⟩
      refine sjs_ext (es := (List.range l.length).map fun n => eKey ⟨p.1, p.2, n⟩) 1 (ev_lcE (own := [("n", 3)]) (fun d => .tuple ([dI p.1, dI p.2] ++ [d])) (it_range (n := l.length) T.range (ed_is (ed_lenT T.len (ed_call c2 hr (ad_consd (ed_var 0) (ad_consd (ed_var 2) ad_nild)) ⟨S, p.1, p.2, l, wf, rfl, hl, rfl⟩)) (by rw [List.length_map])) (by omega)).ic rfl sc_keys_of.nd (blkOk_by (N := ["setting", "found", "pair", "n"]) (sc := defScope (top 26)) (by decide +kernel)) (by rw [rangeD_len]; exact Nat.le_trans (by omega) sz) (range_map fun g _ => rfl) (fun d hd => ?_)) rfl ?_ (sjs_nil ?_) (slot_name 1)
      · obtain ⟨n, _, rfl⟩ := range_mem hd
        exact ⟨[(3, dI n)], fun _ _ _ _ _ => gd_name 3 sc_keys_of.nd, fun p hp => by rw [List.mem_singleton.mp hp]; exact List.mem_singleton.mpr rfl, fun _ _ _ _ _ => ed_cat (ed_var 2) (ed_tup (ad_consd (ed_var 3) ad_nild)) (by show 3 ≤ sizeLine; decide)⟩
      · have h1 := keysF_len wf ((pairsS S).take i)
        have h2 := wf.pairs
        have h3 := sz
        rw [List.length_map, List.length_map, List.length_range]
        rw [List.length_take] at h1
        omega
      · have e : (keysF S ((pairsS S).take (i + 1))).map eKey = (keysF S ((pairsS S).take i)).map eKey ++ (List.range l.length).map fun n => eKey ⟨p.1, p.2, n⟩ := by
          unfold keysF
          rw [take_snoc hp, List.flatMap_append, List.map_append, List.flatMap_singleton, ez, List.map_map]
          rfl
        rw [e]
        exact ⟨_, _, rfl⟩
    · rintro ρ ⟨a, b, rfl⟩
      exact ⟨a, b, by rw [List.length_map, List.take_length]; rfl⟩
    · rintro ρ ⟨a, b, rfl⟩
      exact sjs_ret (ed_tupOf T.tuple (er_var 1)) rfl
theorem sc_is_key : FnScope ["setting", "thing"] ["setting", "thing"] (defScope (top 27)) := ⟨rfl, rfl, rfl, by decide +kernel, rfl, by decide +kernel, by decide +kernel⟩
def R_is_key (ds : List PyData) (d : PyData) : Prop := ∃ (S : Setting) (k : Key) (x : CallS), WfS S ∧ ds = [eSetting S, eKey k] ∧ callS S k = some x ∧ d = .bool true
theorem c_is_key (T : Bl mg) (O : Own K mg "is_key" (defD "is_key" (top 27)) []) (c1 : Cal P w K mg base 2 "are_numbers" (PSp K R_are_numbers) []) (c2 : Cal P w K mg base 4 "keys_of" (PSp K R_keys_of) []) : Cal P w K mg base 5 "is_key" (PSp K R_is_key) [] := by
  refine cal_pure O sc_is_key ?_ (by decide) (fun _ _ _ _ _ _ us hl => match us, hl with | [_, _], _ => rfl) ?_
  · rintro ds d ⟨S, k, x, _, rfl, _⟩; rfl
  · rintro f cdv A outer s H E hr ds d ⟨S, k, x, wf, rfl, hx, rfl⟩
    exact sjs_ret (ed_andB (k := true) (m := true) (ed_call c1 hr (ad_consd (ed_var 1) (ad_consd ed_k ad_nild)) ⟨[k.c, k.g, k.n], 3, rfl, by simp, by simp⟩) fun _ => ed_one (ed_inT (roomU hr) (ed_var 1) (ed_call c2 hr (ad_consd (ed_var 0) ad_nild) ⟨S, wf, rfl, rfl⟩) (lay_key k) (lay_map fun p _ => lay_key p) (List.mem_map.mpr ⟨k, mem_keysS hx, rfl⟩))) rfl
theorem sc_call_of : FnScope ["setting", "key"] ["setting", "key"] (defScope (top 28)) := ⟨rfl, rfl, rfl, by decide +kernel, rfl, by decide +kernel, by decide +kernel⟩
def R_call_of (ds : List PyData) (d : PyData) : Prop := ∃ (S : Setting) (k : Key) (x : CallS), WfS S ∧ ds = [eSetting S, eKey k] ∧ callS S k = some x ∧ d = eCallS x
theorem c_call_of (O : Own K mg "call_of" (defD "call_of" (top 28)) []) (c1 : Cal P w K mg base 5 "is_key" (PSp K R_is_key) []) (c2 : Cal P w K mg base 3 "group_of" (PSp K R_group_of) []) : Cal P w K mg base 6 "call_of" (PSp K R_call_of) [] := by
  refine cal_pure O sc_call_of ?_ (by decide) (fun _ _ _ _ _ _ us hl => match us, hl with | [_, _], _ => rfl) ?_
  · rintro ds d ⟨S, k, x, _, rfl, _⟩; rfl
  · rintro f cdv A outer s H E hr ds d ⟨S, k, x, wf, rfl, hx, rfl⟩
    obtain ⟨l, h1, h2⟩ := callS_at hx
    refine sjs_skip (td_not (k := true) (td_val (ed_call c1 hr (ad_consd (ed_var 0) (ad_consd (ed_var 1) ad_nild)) ⟨S, k, x, wf, rfl, hx, rfl⟩))) ?_
    exact sjs_ret (ed_xm eCallS (ed_call c2 hr (ad_consd (ed_var 0) (ad_consd (ed_to (ed_var 1)) ad_nild)) ⟨S, k.c, k.g, l, wf, rfl, h1, rfl⟩) (ed_ic (ed_var 1) rfl) h2) rfl
end
end TC
set_option linter.all false
/-! The mirror, part 3: the house, the steps, rounds and runs. -/
namespace TC
open PySem

/-! ### the house -/
def place (r : Row) : Pair := (r.c, r.g)
def rowAt (rs : List Row) (c g : Nat) : Option Row := rs.find? fun r => decide (place r = (c, g))
def rowD (rs : List Row) (c g : Nat) : Row := (rowAt rs c g).getD ⟨c, g, 0, 0, [], []⟩
def putRow (rs : List Row) (r : Row) : List Row := if rs.any (fun x => decide (place x = place r)) then rs.map fun x => if place x = place r then r else x else rs ++ [r]
def getA (cs : List (Str × Nat)) (x : Str) : Nat := ((cs.find? fun p => decide (p.1 = x)).map (·.2)).getD 0
def putA (cs : List (Str × Nat)) (x : Str) (v : Nat) : List (Str × Nat) := if cs.any (fun p => decide (p.1 = x)) then cs.map fun p => if p.1 = x then (p.1, v) else p else cs ++ [(x, v)]
def sortR (rs : List Row) : List Row := rs.mergeSort (PySem.W.dataLe false fun r => ePair (place r))
def sortC (cs : List (Str × Nat)) : List (Str × Nat) := cs.mergeSort (PySem.W.dataLe false eCell)
def sortW (ws : List Wait) : List Wait := ws.mergeSort (PySem.W.dataLe false eWait)
structure Hs where
  cells : List (Str × Nat)
  book : List (Key × Ans)
  tells : List (Key × Ans)
  keys : List Key
  row : Row
def decS (cells : List (Str × Nat)) (clock : Nat) (w : Wait) : List (Str × Nat) × Ans :=
  if w.last < clock then (cells, .late) else (putA cells w.cell (getA cells w.cell + w.number), .done (getA cells w.cell + w.number))
def oneS (c g clock : Nat) (h : Hs) (w : Wait) : Hs :=
  ⟨(decS h.cells clock w).1, h.book ++ [(⟨c, g, w.n⟩, (decS h.cells clock w).2)], h.tells ++ [(⟨c, g, w.n⟩, (decS h.cells clock w).2)], h.keys ++ [⟨c, g, w.n⟩],
    { h.row with next := w.n + 1, answers := h.row.answers ++ [(decS h.cells clock w).2], waiting := h.row.waiting.filter fun x => decide (w.n + 1 < x.n) }⟩
def dueW (ws : List Wait) (n : Nat) : List Wait := ws.filter fun x => decide (x.n = n)
def runS (c g clock : Nat) : Nat → Hs → List Wait → Hs
  | 0, h, _ => h
  | _ + 1, h, [] => h
  | f + 1, h, w :: _ => runS c g clock f (oneS c g clock h w) (dueW h.row.waiting (w.n + 1))
def forgot (r : Row) (heard : Nat) : Row := { r with floor := max r.floor heard, answers := r.answers.drop (heard - r.floor) }
structure Ask where
  k : Key
  cell : Str
  number : Nat
  last : Nat
  heard : Nat
def Ask.w (a : Ask) : Wait := ⟨a.k.n, a.cell, a.number, a.last⟩
def askRow (h : House) (a : Ask) : Row := forgot (rowD h.rows a.k.c a.k.g) a.heard
def askOld (r : Row) (n : Nat) : Bool := decide (r.floor ≤ n ∧ n < r.next)
def askTells (r : Row) (k : Key) : List (Key × Ans) := if askOld r k.n then [(k, (r.answers[k.n - r.floor]?).getD .late)] else []
def askKeep (S : Setting) (r : Row) (n : Nat) : Bool := decide (r.next < n ∧ n < r.floor + S.window ∧ n ∉ r.waiting.map (·.n))
def askWait (S : Setting) (r : Row) (a : Ask) : List Wait := if askOld r a.k.n then r.waiting else if askKeep S r a.k.n then sortW (r.waiting ++ [a.w]) else r.waiting
def askS (S : Setting) (h : House) (clock : Nat) (a : Ask) : Hs :=
  let r := askRow h a
  runS a.k.c a.k.g clock ((askWait S r a).length + 1) ⟨h.cells, h.book, askTells r a.k, [], { r with waiting := askWait S r a }⟩ (if a.k.n = r.next then [a.w] else [])
def closedS (h : House) (x : Hs) : House := ⟨sortC x.cells, x.book, sortR (putRow h.rows x.row)⟩
def fallenS (h : House) : House := { h with rows := h.rows.map fun r => { r with waiting := [] } }
/-! ### steps -/
def letterAt (st : State) (l k : Nat) : Option Letter := (lane st l)[k]?
def noLetter : Letter := .tell ⟨0, 0, 0⟩ .late
def withoutS (st : State) (l k : Nat) : State := { st with lanes := st.lanes.set l ((lane st l).take k ++ (lane st l).drop (k + 1)) }
def tellAll (st : State) (l : Nat) (ts : List (Key × Ans)) : State := ts.foldl (fun s t => sentS s l (.tell t.1 t.2)) st
def getS (S : Setting) (st : State) (l k : Nat) : State :=
  match (letterAt st l k).getD noLetter with
  | .tell key a => heardTell (withoutS st l k) key a
  | .ask key cell number last heard =>
    let x := askS S st.house st.clock ⟨key, cell, number, last, heard⟩
    tellAll { withoutS st l k with house := closedS st.house x } l x.tells
def evGet (S : Setting) (st : State) (l k : Nat) : PyData :=
  match (letterAt st l k).getD noLetter with
  | .tell key a => .tuple [.str "told", eKey key, .bool (isNew st key)]
  | .ask key cell number last heard => .tuple [.str "asked", eKey key, .tuple ((askS S st.house st.clock ⟨key, cell, number, last, heard⟩).keys.map eKey)]
def stepS (S : Setting) (st : State) : Step → State
  | .go c => goS S st c
  | .get l k => getS S st l k
  | .lose l k => withoutS st l k
  | .double l k => sentS st l ((letterAt st l k).getD noLetter)
  | .tick => { st with clock := st.clock + 1 }
  | .tear l => { st with lanes := st.lanes.set l [] }
  | .fall => { st with house := fallenS st.house }
def evS (S : Setting) (st : State) : Step → PyData
  | .go c => eDue (dueS S st c)
  | .get l k => evGet S st l k
  | .lose l k => .tuple [.str "lost", eLetter ((letterAt st l k).getD noLetter)]
  | .double l k => .tuple [.str "doubled", eLetter ((letterAt st l k).getD noLetter)]
  | .tick => .tuple [.str "clock", dI (st.clock + 1)]
  | .tear l => .tuple [.str "torn", dI (lane st l).length]
  | .fall => .tuple [.str "fallen", dI (st.house.rows.map fun r => r.waiting.length).sum]
def Can (S : Setting) (st : State) : Step → Prop
  | .go c => c < S.callers.length
  | .get l k | .lose l k | .double l k => l < 2 ∧ k < (lane st l).length
  | .tear l => l < 2
  | _ => True
def runAll (S : Setting) : List Step → State → State
  | [], st => st
  | x :: r, st => runAll S r (stepS S st x)
def evAll (S : Setting) : List Step → State → List PyData
  | [], _ => []
  | x :: r, st => evS S st x :: evAll S r (stepS S st x)
/-- each step can be when its turn comes -/
def CanAll (S : Setting) : List Step → State → Prop
  | [], _ => True
  | x :: r, st => Can S st x ∧ CanAll S r (stepS S st x)
/-! ### what states are -/
def nextOf (st : State) (c g : Nat) : Nat := (rowD st.house.rows c g).next
def Letter.key : Letter → Key
  | .ask k _ _ _ _ => k
  | .tell k _ => k
def LetOk (st : State) : Letter → Prop
  | .ask k cell _ _ heard => PyData.strOk cell = true ∧ (∃ y, callAt st k = some y) ∧ heard ≤ nextOf st k.c k.g
  | .tell k _ => (∃ y, callAt st k = some y) ∧ k.n < nextOf st k.c k.g
structure RowOk (S : Setting) (st : State) (r : Row) : Prop where
  grp : ∃ l, grpS S r.c r.g = some l
  fl : r.floor ≤ r.next
  ans : r.answers.length = r.next - r.floor
  nx : r.next ≤ (grpD st r.c r.g).calls.length
  wt : ∀ x ∈ r.waiting, PyData.strOk x.cell = true ∧ r.next < x.n ∧ x.n < (grpD st r.c r.g).calls.length
  wn : (r.waiting.map (·.n)).Nodup
structure GrpOk (S : Setting) (c g : Nat) (G : Grp) : Prop where
  hd : G.heard = heardOf G.calls
  len : G.calls.length ≤ lenS S c g
  lane : ∀ k ∈ G.calls, k.lane ≤ 1
structure Wf (S : Setting) (st : State) : Prop where
  shp : Shp S st
  grp : ∀ c g G, grp st c g = some G → GrpOk S c g G
  purse : ∀ clr ∈ st.callers, 0 < clr.purse.2 ∧ clr.purse.2 ≤ 6
  nl : st.lanes.length = 2
  lets : ∀ l ∈ st.lanes, ∀ x ∈ l, LetOk st x
  rows : ∀ r ∈ st.house.rows, RowOk S st r
  rnd : (st.house.rows.map place).Nodup
  cells : ∀ p ∈ st.house.cells, PyData.strOk p.1 = true
  cnd : (st.house.cells.map (·.1)).Nodup
  ans : ∀ k x, callAt st k = some x → x.ans.isSome = true → k.n < nextOf st k.c k.g
/-- no list is long -/
structure Szs (st : State) : Prop where
  lanes : ∀ l ∈ st.lanes, l.length ≤ 100000
  book : st.house.book.length ≤ 100000
  cells : st.house.cells.length ≤ 100000
  wait : ∀ r ∈ st.house.rows, r.waiting.length ≤ 100000
  rows : st.house.rows.length ≤ 100000
end TC
set_option Elab.async false
set_option linter.all false
set_option maxRecDepth 100000
set_option maxHeartbeats 4000000
/-! name = [..]: the comprehension right into the name. -/
namespace TC
open PySem L2
def LCJ (X : Cx) (ρ : List Sl) (elt tg iter : Expr) (ifs : List Expr) (scope : Scope) (own : List (Str × Nat)) (ds : List PyData) : Prop := ∃ (wi : TI) (g : TG) (tt : TT) (te : TE), PI X tg iter wi ∧ (BL X scope fun Y => PG Y tg g) ∧ (BL X scope fun Y => PTs Y ifs tt) ∧ (BL X scope fun Y => PE Y elt te) ∧
  ∀ σ H, Env X.K H σ ρ → ∀ Q : VK, (∀ v H', Ex H H' → VOk X.K H H' v (.l ds) → Q v H') → tLc wi g tt te (own.map (·.2)) σ H Q
section
variable {X : Cx} {ρ : List Sl} {elt tg iter : Expr} {scope : Scope} {own : List (Str × Nat)} {pos spos py : Pos} {ds : List PyData} {rest : List Stmt} {N : List Sl → Prop} {R : Sl → List Sl → Prop}
theorem lcj (g : PyData → PyData) (hi : IC X ρ tg iter ds) (hz : ds.length ≤ sizeLine)
    (turn : ∀ d, d ∈ ds → ∃ ps, (BL X scope fun Y => GD Y tg d ps) ∧ (∀ p ∈ ps, p.1 ∈ own.map (·.2)) ∧ BL X scope fun Y => ED Y (setsD ps (wipeS ρ (own.map (·.2)))) elt (g d)) : LCJ X ρ elt tg iter [] scope own (ds.map g) := by
  obtain ⟨wi, h1, h2⟩ := hi
  refine ⟨wi, _, _, _, h1, bG_ok, (fun _ _ _ _ _ => pts_nil), bE_ok, fun σ H ev Q q => lc_reads h2 (fun d => some (g d)) hz (fun d hd => ?_) ev (by simpa using q)⟩
  obtain ⟨ps, a, b, c⟩ := turn d hd
  exact ⟨ps, a, b, true, fun _ H _ Q q => q H (Ex.rf H), (fun z => by cases z), fun _ => ⟨g d, rfl, c⟩⟩
theorem lcjIf {c : Expr} (f : PyData → Option PyData) (hi : IC X ρ tg iter ds) (hz : ds.length ≤ sizeLine)
    (turn : ∀ d, d ∈ ds → ∃ ps, (BL X scope fun Y => GD Y tg d ps) ∧ (∀ p ∈ ps, p.1 ∈ own.map (·.2)) ∧ ∃ b : Bool, (BL X scope fun Y => TD Y (setsD ps (wipeS ρ (own.map (·.2)))) c b) ∧
      (b = false → f d = none) ∧ (b = true → ∃ y, f d = some y ∧ BL X scope fun Y => ED Y (setsD ps (wipeS ρ (own.map (·.2)))) elt y)) : LCJ X ρ elt tg iter [c] scope own (ds.filterMap f) := by
  obtain ⟨wi, h1, h2⟩ := hi
  refine ⟨wi, _, _, _, h1, bG_ok, (fun s H C cl fp => pts_one (bT_ok s H C cl fp)), bE_ok, fun σ H ev Q q => lc_reads h2 f hz (fun d hd => ?_) ev q⟩
  obtain ⟨ps, a, b, k, t1, t2, t3⟩ := turn d hd
  exact ⟨ps, a, b, k, fun σ H ev Q q s0 H0 C cl fp => t1 s0 H0 C cl fp σ H ev Q q, t2, t3⟩
theorem sjs_setLc (i : Nat) {y : Str} {ifs : List Expr} (j : LCJ X ρ elt tg iter ifs scope own ds) (t : SJs X (ρ.set i (.l ds)) rest N R) (hc : X.calm = true) (hN : X.N.Nodup) (ok : BlkOk X.N X.env.scope scope own) (hy : X.N[i]? = some y := by rfl) (hyl : X.env.scope.names.lookup y = some .local := by rfl)
    (hk : X.env.scope.kind = .function := by rfl) (hl : (py.line == pos.line) = true := by rfl) (ha : (scope.names.any fun (n, k) => n == y && (k == .local || k == .cell)) = false := by rfl) (hs : ∀ x, foldedSetIterable iter X.env x = pure x := by intro _; rfl) :
    SJs X ρ (.Assign [.Name y py] (.ListComp elt [⟨tg, iter, ifs, 0⟩] scope pos) spos :: rest) N R := by
  obtain ⟨wi, g, tt, te, h1, h2, h3, h4, h5⟩ := j
  exact sjs_cons (M := fun ρ' => ρ' = ρ.set i (.l ds)) (fun B F σ H ev D k r => wS_of (ps_setLc hc hN hy hyl (sw_true hk hyl hl ha) h1 ok h2 h3 h4 hs) (h5 σ H ev.env _ fun v H1 e1 o1 => k _ H1 _ (ev.put e1 o1) e1.te rfl)) fun ρ' m => by subst m; exact t
end
end TC
set_option Elab.async false
set_option linter.all false
set_option maxRecDepth 100000
set_option maxHeartbeats 4000000
/-! Defs, part 4: states. -/
namespace TC
open PySem L2
def lcScope : Expr → Scope
  | .ListComp _ _ sc _ => sc
  | _ => defScope (.Pass ⟨0, 0, 0, 0⟩)
def asgVal : Stmt → Expr
  | .Assign _ e _ => e
  | _ => .Constant .none 0 ⟨0, 0, 0, 0⟩
def stmtAt (ss : List Stmt) (i : Nat) : Stmt := ss.getD i (.Pass ⟨0, 0, 0, 0⟩)
section
variable {P : Program} {w : World} {K : PySem.W.Frag} {mg : Str → Option Value} {base : Heap}
/-! ### begun -/
theorem sc_begun : FnScope ["setting", "callers", "groups", "rate", "most", "group"] ["setting"] (defScope (top 30)) := ⟨rfl, rfl, rfl, by decide +kernel, rfl, by decide +kernel, by decide +kernel⟩
def R_begun (ds : List PyData) (d : PyData) : Prop := ∃ S : Setting, WfS S ∧ ds = [eSetting S] ∧ d = eState (begunS S)
def begRow (d : PyData) : PyData := match d with
  | .tuple [.tuple gs, _, most] => .tuple [most, dI 0, .tuple (gs.map fun _ => .tuple [dI 0, .tuple []])]
  | _ => .none
theorem c_begun (T : Bl mg) (O : Own K mg "begun" (defD "begun" (top 30)) []) : Cal P w K mg base 1 "begun" (PSp K R_begun) [] := by
  refine cal_pure O sc_begun ?_ (by decide) (fun _ _ _ _ _ _ us hl => match us, hl with | [_], _ => rfl) ?_
  · rintro ds d ⟨S, _, rfl, _⟩; rfl
  · rintro f cdv A outer s H E hr ds d ⟨S, wf, rfl, rfl⟩
    refine sjs_setLc 1 (lcj (own := [("groups", 2), ("rate", 3), ("most", 4)]) begRow (it_tup (ed_ic (ed_var 0) rfl)).ic (by have := wf.nc; have := sz; rw [List.length_map]; omega) (fun d hd => ?_)) ?_ rfl sc_begun.nd (blkOk_by (N := ["setting", "callers", "groups", "rate", "most", "group"]) (sc := defScope (top 30)) (by decide +kernel))
    · obtain ⟨cs, hm, rfl⟩ := List.mem_map.mp hd
      have hg := wf.ng cs hm
      refine ⟨[(2, .tuple (cs.groups.map eGrpS)), (3, eFr cs.rate), (4, eFr cs.most)], fun _ _ _ _ _ => gd_tup rfl (gds_cons (gd_name 2 sc_begun.nd) (gds_cons (gd_name 3 sc_begun.nd) (gds_cons (gd_name 4 sc_begun.nd) gds_nil))) rfl, own_by, fun _ _ _ _ _ => ?_⟩
      refine ed_tup (ad_consd (ed_var 4) (ad_consd ed_k (ad_consd (ed_tupOf T.tuple (er_new (ev_lc (own := [("group", 5)]) (fun _ => .tuple [dI 0, .tuple []]) (it_tup (ed_var 2)).ic rfl sc_begun.nd (blkOk_by (N := ["setting", "callers", "groups", "rate", "most", "group"]) (sc := lcScope (asgVal (stmtAt (defBody (top 30)) 0))) (by decide +kernel)) (by have := sz; rw [List.length_map]; omega) (fun d hd => ?_)))) ad_nild)))
      exact ⟨[(5, d)], fun _ _ _ _ _ => gd_name 5 sc_begun.nd, own_by, fun _ _ _ _ _ => ed_tup (ad_consd ed_k (ad_consd (ed_tup ad_nild) ad_nild))⟩
    · refine sjs_ret (ed_is (ed_tup (ad_consd ed_k (ad_consd (ed_tupOf T.tuple (er_var 1)) (ad_consd (ed_tup (ad_consd (ed_tup ad_nild) (ad_consd (ed_tup ad_nild) ad_nild))) (ad_consd (ed_tup (ad_consd (ed_tup ad_nild) (ad_consd (ed_tup ad_nild) (ad_consd (ed_tup ad_nild) ad_nild)))) ad_nild))))) ?_) rfl
      have e : (S.callers.map eClrS).map begRow = (begunS S).callers.map eClr := by
        unfold begunS
        simp only [List.map_map]
        refine List.map_congr_left fun cs _ => ?_
        simp [begRow, eClrS, eClr, eGrp, List.map_map, Function.comp_def]
      rw [e]
      rfl
/-! ### heard_of -/
theorem sc_heard_of : FnScope ["calls", "many"] ["calls"] (defScope (top 31)) := ⟨rfl, rfl, rfl, by decide +kernel, rfl, by decide +kernel, by decide +kernel⟩
def R_heard_of (ds : List PyData) (d : PyData) : Prop := ∃ cs : List Call, ds = [.tuple (cs.map eCall)] ∧ d = dI (heardOf cs)
theorem isNo_ans (a : Option Ans) : isNo (eOAns a) = a.isNone := by
  cases a with
  | none => rfl
  | some a => cases a <;> rfl
theorem c_heard_of (T : Bl mg) (O : Own K mg "heard_of" (defD "heard_of" (top 31)) []) : Cal P w K mg base 1 "heard_of" (PSp K R_heard_of) [] := by
  refine cal_pure O sc_heard_of ?_ (by decide) (fun _ _ _ _ _ _ us hl => match us, hl with | [_], _ => rfl) ?_
  · rintro ds d ⟨cs, rfl, _⟩; rfl
  · rintro f cdv A outer s H E hr ds d ⟨cs, rfl, rfl⟩
    refine sjs_set 1 (y := .d (dI 0)) ed_k ?_ sc_heard_of.nd
    refine sjs_cons (sj_while (fun m ρ => ∃ n, ρ = [.d (.tuple (cs.map eCall)), .d (dI n)] ∧ n + heardOf (cs.drop n) = heardOf cs ∧ m = cs.length - n) (N := fun ρ => ρ = [.d (.tuple (cs.map eCall)), .d (dI (heardOf cs))]) ⟨0, rfl, by simp, rfl⟩ ?_ PassesOwn.never) ?_
    · rintro m ρ ⟨n, rfl, h1, rfl⟩
      cases e : cs[n]? with
      | none =>
        have hl := List.getElem?_eq_none_iff.mp e
        refine ⟨false, TW.td (tw_and (k := false) (m := false) (td_is (td_ltn (ed_var 1) (ed_lenT T.len (ed_var 0))) (decide_eq_false (by rw [List.length_map]; omega))) fun z => by cases z), (fun z => by cases z), fun _ => ?_⟩
        rw [List.drop_of_length_le hl] at h1
        rw [← h1]; rfl
      | some c =>
        have hl := (List.getElem?_eq_some_iff.mp e).1
        rw [drop_at e] at h1
        refine ⟨c.ans.isSome, TW.td (tw_and (k := true) (m := c.ans.isSome) (td_is (td_ltn (ed_var 1) (ed_lenT T.len (ed_var 0))) (decide_eq_true (by rw [List.length_map]; exact hl))) fun _ => tw_and1 (td_is (td_notN (ed_ic (ed_xm eCall (ed_var 0) (ed_var 1) e) rfl)) (by rw [isNo_ans]; cases c.ans <;> rfl))), fun h => ?_, fun h => ?_⟩
        · refine sjs_aug 1 rfl ed_int (sjs_nil ⟨cs.length - (n + 1), by omega, n + 1, rfl, ?_, rfl⟩) sc_heard_of.nd
          rw [← h1]
          cases ha : c.ans with
          | none => rw [ha] at h; cases h
          | some a => simp only [heardOf, ha]; omega
        · cases ha : c.ans with
          | none => simp only [heardOf, ha] at h1; rw [← h1]; rfl
          | some a => rw [ha] at h; cases h
    · rintro ρ rfl
      exact sjs_ret (ed_var 1) rfl
end
end TC
set_option Elab.async false
set_option linter.all false
set_option maxRecDepth 100000
set_option maxHeartbeats 4000000
/-! Defs, part 5: through, answers, what is due. -/
namespace TC
open PySem L2
section
variable {P : Program} {w : World} {K : PySem.W.Frag} {mg : Str → Option Value} {base : Heap}
theorem grp_mk {st : State} {c g : Nat} {clr : Clr} {G : Grp} (h1 : st.callers[c]? = some clr) (h2 : clr.groups[g]? = some G) : grp st c g = some G := by unfold grp; rw [h1]; exact h2
theorem grpS_mk {S : Setting} {c g : Nat} {cs : ClrS} {l : List CallS} (h1 : S.callers[c]? = some cs) (h2 : cs.groups[g]? = some l) : grpS S c g = some l := by unfold grpS; rw [h1]; exact h2
theorem grp_at {st : State} {c g : Nat} {G : Grp} (h : grp st c g = some G) : ∃ clr, st.callers[c]? = some clr ∧ clr.groups[g]? = some G := by
  unfold grp at h
  cases e : st.callers[c]? with
  | none => rw [e] at h; cases h
  | some clr => rw [e] at h; exact ⟨clr, rfl, h⟩
theorem Shp.grp_ {S : Setting} {st : State} (sh : Shp S st) {c g : Nat} {l : List CallS} (h : grpS S c g = some l) : ∃ G, grp st c g = some G := by
  obtain ⟨cs, h1, h2⟩ := grpS_at h
  obtain ⟨clr, h3, h4⟩ := sh.clr h1
  have hl := (List.getElem?_eq_some_iff.mp h2).1
  exact ⟨clr.groups[g]'(by omega), grp_mk h3 (List.getElem?_eq_getElem _)⟩
theorem Shp.grpS_ {S : Setting} {st : State} (sh : Shp S st) {c g : Nat} {G : Grp} (h : grp st c g = some G) : ∃ l, grpS S c g = some l := by
  obtain ⟨clr, h1, h2⟩ := grp_at h
  obtain ⟨cs, h3, h4⟩ := sh.clrS h1
  have hl := (List.getElem?_eq_some_iff.mp h2).1
  exact ⟨cs.groups[g]'(by omega), grpS_mk h3 (List.getElem?_eq_getElem _)⟩
/-! ### all_through -/
theorem sc_all_through : FnScope ["setting", "state", "caller", "groups", "rate", "most", "group", "calls"] ["setting", "state"] (defScope (top 32)) := ⟨rfl, rfl, rfl, by decide +kernel, rfl, by decide +kernel, by decide +kernel⟩
def R_all_through (ds : List PyData) (d : PyData) : Prop := ∃ (S : Setting) (st : State), ds = [eSetting S, eState st] ∧ Shp S st ∧ d = .bool (thr S st)
theorem c_all_through (T : Bl mg) (O : Own K mg "all_through" (defD "all_through" (top 32)) []) : Cal P w K mg base 1 "all_through" (PSp K R_all_through) [] := by
  refine cal_pure O sc_all_through ?_ (by decide) (fun _ _ _ _ _ _ us hl => match us, hl with | [_, _], _ => rfl) ?_
  · rintro ds d ⟨S, st, rfl, _⟩; rfl
  · rintro f cdv A outer s H E hr ds d ⟨S, st, rfl, sh, rfl⟩
    have nd := sc_all_through.nd
    refine sjs_cons (sj_for (it_enum T.enumerate (ed_ic (ed_var 0) rfl)) (N := fun ρ => Thr S st ∧ ∃ a b c e f g, ρ = [.d (eSetting S), .d (eState st), a, b, c, e, f, g]) (fun i ρ => (∀ c g l G, c < i → grpS S c g = some l → grp st c g = some G → l.length ≤ G.heard) ∧ ∃ a b c e f g, ρ = [.d (eSetting S), .d (eState st), a, b, c, e, f, g]) ⟨by omega, _, _, _, _, _, _, rfl⟩ ?_ ?_ rfl PassesOwn.never) ?_
    · rintro i d ρ hd ⟨hI, a, b, c, e, f, g, rfl⟩
      obtain ⟨cs, hc, rfl⟩ := enumM_at hd
      obtain ⟨clr, hclr, hlen⟩ := sh.clr hc
      refine ⟨[(2, dI i), (3, .tuple (cs.groups.map eGrpS)), (4, eFr cs.rate), (5, eFr cs.most)], gd_tup rfl (gds_cons (gd_name 2 nd) (gds_cons (gd_tup rfl (gds_cons (gd_name 3 nd) (gds_cons (gd_name 4 nd) (gds_cons (gd_name 5 nd) gds_nil))) rfl) gds_nil)) rfl, ?_⟩
      refine sjs_one (sj_for (it_enum T.enumerate (ed_var 3)) (fun j ρ => (∀ g l G, g < j → grpS S i g = some l → grp st i g = some G → l.length ≤ G.heard) ∧ ∃ x y, ρ = [.d (eSetting S), .d (eState st), .d (dI i), .d (.tuple (cs.groups.map eGrpS)), .d (eFr cs.rate), .d (eFr cs.most), x, y]) ⟨by omega, _, _, rfl⟩ ?_ ?_ rfl PassesOwn.never)
      · rintro j d ρ hd ⟨hJ, x, y, rfl⟩
        obtain ⟨l, hl, rfl⟩ := enumM_at hd
        have hj := (List.getElem?_eq_some_iff.mp hl).1
        obtain ⟨G, hG⟩ : ∃ G, clr.groups[j]? = some G := ⟨clr.groups[j]'(by omega), List.getElem?_eq_getElem _⟩
        have g1 := grp_mk hclr hG
        have g2 := grpS_mk hc hl
        refine ⟨[(6, dI j), (7, eGrpS l)], gd_tup rfl (gds_cons (gd_name 6 nd) (gds_cons (gd_name 7 nd) gds_nil)) rfl, ?_⟩
        refine sjs_one (sj_if (k := decide (G.heard < l.length)) (td_is (td_ltn (ed_ic (ed_xm eGrp (ed_ic (ed_xm eClr (ed_ic (ed_var 1) rfl) (ed_var 2) hclr) rfl) (ed_var 6) hG) rfl) (ed_lenT T.len (ed_var 7))) (by rw [List.length_map])) (fun h => ?_) fun h => ?_)
        · have h := of_decide_eq_true h
          refine sjs_ret ed_bl ?_
          rw [thr_not fun t => by have := t i j l G g2 g1; omega]
        · have h := of_decide_eq_false h
          refine sjs_nil ⟨fun g l' G' hg e1 e2 => ?_, _, _, rfl⟩
          by_cases q : g = j
          · subst q
            cases g2.symm.trans e1
            cases g1.symm.trans e2
            omega
          · exact hJ g l' G' (by omega) e1 e2
      · rintro ρ ⟨hJ, x, y, rfl⟩
        refine ⟨fun c g l G hc' e1 e2 => ?_, _, _, _, _, _, _, rfl⟩
        by_cases q : c = i
        · subst q
          obtain ⟨cs', q1, q2⟩ := grpS_at e1
          cases hc.symm.trans q1
          exact hJ g l G (by rw [enumD_len, List.length_map]; exact (List.getElem?_eq_some_iff.mp q2).1) e1 e2
        · exact hI c g l G (by omega) e1 e2
    · rintro ρ ⟨hI, a, b, c, e, f, g, rfl⟩
      refine ⟨fun c g l G e1 e2 => ?_, _, _, _, _, _, _, rfl⟩
      obtain ⟨cs', q1, q2⟩ := grpS_at e1
      exact hI c g l G (by rw [enumD_len, List.length_map]; exact (List.getElem?_eq_some_iff.mp q1).1) e1 e2
    · rintro ρ ⟨h, a, b, c, e, f, g, rfl⟩
      exact sjs_ret ed_bl (by rw [thr_iff.mpr h])
/-! ### need_key, answer_had -/
theorem sc_need_key : FnScope ["setting", "key"] ["setting", "key"] (defScope (top 33)) := ⟨rfl, rfl, rfl, by decide +kernel, rfl, by decide +kernel, by decide +kernel⟩
def R_need_key (ds : List PyData) (d : PyData) : Prop := ∃ (S : Setting) (k : Key) (x : CallS), WfS S ∧ ds = [eSetting S, eKey k] ∧ callS S k = some x ∧ d = .none
theorem c_need_key (O : Own K mg "need_key" (defD "need_key" (top 33)) []) (c1 : Cal P w K mg base 5 "is_key" (PSp K R_is_key) []) : Cal P w K mg base 6 "need_key" (PSp K R_need_key) [] := by
  refine cal_pure O sc_need_key ?_ (by decide) (fun _ _ _ _ _ _ us hl => match us, hl with | [_, _], _ => rfl) ?_
  · rintro ds d ⟨S, k, x, _, rfl, _⟩; rfl
  · rintro f cdv A outer s H E hr ds d ⟨S, k, x, wf, rfl, hx, rfl⟩
    exact sjs_skip (td_not (k := true) (td_val (ed_call c1 hr (ad_consd (ed_var 0) (ad_consd (ed_var 1) ad_nild)) ⟨S, k, x, wf, rfl, hx, rfl⟩))) (sjs_nil rfl)
theorem sc_answer_had : FnScope ["setting", "state", "key", "caller", "group", "n", "calls"] ["setting", "state", "key"] (defScope (top 34)) := ⟨rfl, rfl, rfl, by decide +kernel, rfl, by decide +kernel, by decide +kernel⟩
def R_answer_had (ds : List PyData) (d : PyData) : Prop := ∃ (S : Setting) (st : State) (k : Key) (x : CallS) (G : Grp), WfS S ∧ ds = [eSetting S, eState st, eKey k] ∧ callS S k = some x ∧ grp st k.c k.g = some G ∧ d = eOAns (ansHad st k)
theorem c_answer_had (T : Bl mg) (O : Own K mg "answer_had" (defD "answer_had" (top 34)) []) (c1 : Cal P w K mg base 6 "need_key" (PSp K R_need_key) []) : Cal P w K mg base 7 "answer_had" (PSp K R_answer_had) [] := by
  refine cal_pure O sc_answer_had ?_ (by decide) (fun _ _ _ _ _ _ us hl => match us, hl with | [_, _, _], _ => rfl) ?_
  · rintro ds d ⟨S, st, k, x, G, _, rfl, _⟩; rfl
  · rintro f cdv A outer s H E hr ds d ⟨S, st, k, x, G, wf, rfl, hx, hG, rfl⟩
    have nd := sc_answer_had.nd
    obtain ⟨clr, g1, g2⟩ := grp_at hG
    refine sjs_expr (ed_call c1 hr (ad_consd (ed_var 0) (ad_consd (ed_var 2) ad_nild)) ⟨S, k, x, wf, rfl, hx, rfl⟩) ?_
    refine sjs_asg (ed_var 2) (gd_tup rfl (gds_cons (gd_name 3 nd) (gds_cons (gd_name 4 nd) (gds_cons (gd_name 5 nd) gds_nil))) rfl) ?_
    refine sjs_set 6 (ed_ic (ed_xm eGrp (ed_ic (ed_xm eClr (ed_ic (ed_var 1) rfl) (ed_var 3) g1) rfl) (ed_var 4) g2) rfl) ?_ nd
    refine sjs_ret (ev_if (k := decide (k.n < G.calls.length)) (td_is (td_ltn (ed_var 5) (ed_lenT T.len (ed_var 6))) (by rw [List.length_map])) (fun h => ?_) fun h => ?_) rfl
    · have h := of_decide_eq_true h
      have e : G.calls[k.n]? = some G.calls[k.n] := List.getElem?_eq_getElem h
      refine ed_is (ed_ic (ed_xm eCall (ed_var 6) (ed_var 5) e) rfl) ?_
      unfold ansHad callAt
      rw [hG]
      simp [e]
    · have h := of_decide_eq_false h
      refine ed_is ed_non ?_
      unfold ansHad callAt
      rw [hG]
      simp only [Option.bind_some]
      rw [List.getElem?_eq_none (by omega)]
      rfl
end
end TC
set_option Elab.async false
set_option linter.all false
set_option maxRecDepth 100000
set_option maxHeartbeats 4000000
/-! Defs, part 6: what is due. -/
namespace TC
open PySem L2
theorem minN {i j : Nat} : (if (j : Int) < (i : Int) then (j : Int) else (i : Int)) = ((min i j : Nat) : Int) := by
  split <;> omega
theorem maxN {i j : Nat} : (if (j : Int) > (i : Int) then (j : Int) else (i : Int)) = ((max i j : Nat) : Int) := by
  split <;> omega
section
variable {X : Cx} {ρ : List Sl} {a b : Expr} {pos p : Pos}
theorem ed_lenM {α : Type} (f : α → PyData) {xs : List α} (hm : X.mg "len" = none) (ha : ED X ρ a (.tuple (xs.map f))) (hg : Gl X "len" := by rfl) (he : starEach [a] X.env = (false, eval a X.env) :: starEach [] X.env := by rfl) (hpl : (backTo pos (starEach [] X.env)).any (·.1) = false := by rfl) : ED X ρ (.Call (.Name "len" p) [a] [] pos) (dI xs.length) :=
  ed_is (ed_lenT hm ha hg he hpl) (by rw [List.length_map]; rfl)
end
section
variable {P : Program} {w : World} {K : PySem.W.Frag} {mg : Str → Option Value} {base : Heap}
/-! ### first_due -/
theorem sc_first_due : FnScope ["setting", "state", "caller", "purse", "tries", "groups", "group", "heard", "calls"] ["setting", "state", "caller"] (defScope (top 36)) := ⟨rfl, rfl, rfl, by decide +kernel, rfl, by decide +kernel, by decide +kernel⟩
def R_first_due (ds : List PyData) (d : PyData) : Prop := ∃ (S : Setting) (st : State) (c : Nat), ds = [eSetting S, eState st, dI c] ∧ Shp S st ∧ c < st.callers.length ∧ d = eOKey (firstDue S st c)
theorem c_first_due (T : Bl mg) (O : Own K mg "first_due" (defD "first_due" (top 36)) []) : Cal P w K mg base 1 "first_due" (PSp K R_first_due) [] := by
  refine cal_pure O sc_first_due ?_ (by decide) (fun _ _ _ _ _ _ us hl => match us, hl with | [_, _, _], _ => rfl) ?_
  · rintro ds d ⟨S, st, c, rfl, _⟩; rfl
  · rintro f cdv A outer s H E hr ds d ⟨S, st, c, rfl, sh, hc, rfl⟩
    have nd := sc_first_due.nd
    obtain ⟨clr, hclr⟩ : ∃ clr, st.callers[c]? = some clr := ⟨_, List.getElem?_eq_getElem hc⟩
    have eD : firstDue S st c = firstFrom S c 0 clr.groups := by unfold firstDue; rw [hclr]; rfl
    rw [eD]
    refine sjs_asg (ed_xm eClr (ed_ic (ed_var 1) rfl) (ed_var 2) hclr) (gd_tup rfl (gds_cons (gd_name 3 nd) (gds_cons (gd_name 4 nd) (gds_cons (gd_name 5 nd) gds_nil))) rfl) ?_
    refine sjs_cons (sj_for (it_enum T.enumerate (ed_var 5)) (N := fun ρ => firstFrom S c 0 clr.groups = none) (fun i ρ => firstFrom S c i (clr.groups.drop i) = firstFrom S c 0 clr.groups ∧ ∃ x y z, ρ = [.d (eSetting S), .d (eState st), .d (dI c), .d (eFr clr.purse), .d (dI clr.tries), .d (.tuple (clr.groups.map eGrp)), x, y, z]) ⟨rfl, _, _, _, rfl⟩ ?_ ?_ rfl PassesOwn.never) ?_
    · rintro i d ρ hd ⟨hI, x, y, z, rfl⟩
      obtain ⟨G, hG, rfl⟩ := enumM_at hd
      obtain ⟨l, hl⟩ := sh.grpS_ (grp_mk hclr hG)
      obtain ⟨cs, q1, q2⟩ := grpS_at hl
      have ez : lenS S c i = l.length := by unfold lenS; rw [hl]; rfl
      refine ⟨[(6, dI i), (7, dI G.heard), (8, .tuple (G.calls.map eCall))], gd_tup rfl (gds_cons (gd_name 6 nd) (gds_cons (gd_tup rfl (gds_cons (gd_name 7 nd) (gds_cons (gd_name 8 nd) gds_nil)) rfl) gds_nil)) rfl, ?_⟩
      rw [drop_at hG] at hI
      refine sjs_one (sj_if (k := decide (G.calls.length < min (lenS S c i) (G.heard + S.window))) (td_ltn (ed_lenM eCall T.len (ed_var 8)) (ed_is (ed_min T.min rfl (i := ((lenS S c i : Nat) : Int)) (j := ((G.heard + S.window : Nat) : Int)) (ed_is (ed_lenM eCallS T.len (ed_xm eGrpS (ed_ic (ed_xm eClrS (ed_ic (ed_var 0) rfl) (ed_var 2) q1) rfl) (ed_var 6) q2)) (by rw [ez]; rfl)) (ed_addn (ed_var 7) (ed_ic (ed_var 0) rfl))) (by rw [minN]; rfl))) (fun h => ?_) fun h => ?_)
      · have h := of_decide_eq_true h
        refine sjs_ret (ed_tup (ad_consd (ed_var 2) (ad_consd (ed_var 6) (ad_consd (ed_lenM eCall T.len (ed_var 8)) ad_nild)))) ?_
        rw [← hI]
        simp only [firstFrom, if_pos h]
        rfl
      · have h := of_decide_eq_false h
        refine sjs_nil ⟨?_, _, _, _, rfl⟩
        rw [← hI]
        simp only [firstFrom, if_neg h]
    · rintro ρ ⟨hI, x, y, z, rfl⟩
      rw [← hI, enumD_len, List.length_map, List.drop_length]
      rfl
    · rintro ρ h
      rw [h]
      exact sjs_ret ed_non rfl
/-! ### further_due -/
theorem sc_further_due : FnScope ["setting", "state", "caller", "purse", "tries", "groups", "group", "heard", "calls", "n", "first", "last_try", "lane", "answer"] ["setting", "state", "caller"] (defScope (top 37)) := ⟨rfl, rfl, rfl, by decide +kernel, rfl, by decide +kernel, by decide +kernel⟩
def R_further_due (ds : List PyData) (d : PyData) : Prop := ∃ (S : Setting) (st : State) (c : Nat), ds = [eSetting S, eState st, dI c] ∧ c < st.callers.length ∧ d = eOFur (furDue S st c)
theorem c_further_due (T : Bl mg) (O : Own K mg "further_due" (defD "further_due" (top 37)) []) : Cal P w K mg base 1 "further_due" (PSp K R_further_due) [] := by
  refine cal_pure O sc_further_due ?_ (by decide) (fun _ _ _ _ _ _ us hl => match us, hl with | [_, _, _], _ => rfl) ?_
  · rintro ds d ⟨S, st, c, rfl, _⟩; rfl
  · rintro f cdv A outer s H E hr ds d ⟨S, st, c, rfl, hc, rfl⟩
    have nd := sc_further_due.nd
    obtain ⟨clr, hclr⟩ : ∃ clr, st.callers[c]? = some clr := ⟨_, List.getElem?_eq_getElem hc⟩
    have eD : furDue S st c = furFrom S st.clock c 0 clr.groups := by unfold furDue; rw [hclr]; rfl
    rw [eD]
    refine sjs_asg (ed_xm eClr (ed_ic (ed_var 1) rfl) (ed_var 2) hclr) (gd_tup rfl (gds_cons (gd_name 3 nd) (gds_cons (gd_name 4 nd) (gds_cons (gd_name 5 nd) gds_nil))) rfl) ?_
    refine sjs_cons (sj_for (it_enum T.enumerate (ed_var 5)) (N := fun ρ => furFrom S st.clock c 0 clr.groups = none) (fun i ρ => furFrom S st.clock c i (clr.groups.drop i) = furFrom S st.clock c 0 clr.groups ∧ ∃ x y z a b e f g, ρ = [.d (eSetting S), .d (eState st), .d (dI c), .d (eFr clr.purse), .d (dI clr.tries), .d (.tuple (clr.groups.map eGrp)), x, y, z, a, b, e, f, g]) ⟨rfl, _, _, _, _, _, _, _, _, rfl⟩ ?_ ?_ rfl PassesOwn.never) ?_
    · rintro i d ρ hd ⟨hI, x, y, z, a, b, e, f, g, rfl⟩
      obtain ⟨G, hG, rfl⟩ := enumM_at hd
      refine ⟨[(6, dI i), (7, dI G.heard), (8, .tuple (G.calls.map eCall))], gd_tup rfl (gds_cons (gd_name 6 nd) (gds_cons (gd_tup rfl (gds_cons (gd_name 7 nd) (gds_cons (gd_name 8 nd) gds_nil)) rfl) gds_nil)) rfl, ?_⟩
      rw [drop_at hG] at hI
      refine sjs_one (sj_for (it_enum T.enumerate (ed_var 8)) (fun j ρ => furCalls S st.clock c i j (G.calls.drop j) = furCalls S st.clock c i 0 G.calls ∧ ∃ a b e f g, ρ = [.d (eSetting S), .d (eState st), .d (dI c), .d (eFr clr.purse), .d (dI clr.tries), .d (.tuple (clr.groups.map eGrp)), .d (dI i), .d (dI G.heard), .d (.tuple (G.calls.map eCall)), a, b, e, f, g]) ⟨rfl, _, _, _, _, _, rfl⟩ ?_ ?_ rfl PassesOwn.never)
      · rintro j d ρ hd ⟨hJ, a, b, e, f, g, rfl⟩
        obtain ⟨k, hk, rfl⟩ := enumM_at hd
        rw [drop_at hk] at hJ
        refine ⟨[(9, dI j), (10, dI k.first), (11, dI k.last), (12, dI k.lane), (13, eOAns k.ans)], gd_tup rfl (gds_cons (gd_name 9 nd) (gds_cons (gd_tup rfl (gds_cons (gd_name 10 nd) (gds_cons (gd_name 11 nd) (gds_cons (gd_name 12 nd) (gds_cons (gd_name 13 nd) gds_nil)))) rfl) gds_nil)) rfl, ?_⟩
        refine sjs_one (sj_if (k := k.ans.isNone && decide (k.last + S.patience ≤ st.clock)) (TW.td (tw_and (td_is (td_isN (ed_var 13)) (isNo_ans _)) fun _ => tw_and1 (td_is (td_cmp op_ge (ed_sub (ed_ic (ed_var 1) rfl) (ed_var 11)) (ed_ic (ed_var 0) rfl) rI0_ok (nomark _)) (decide_eq_decide.mpr (by omega))))) (fun h => ?_) fun h => ?_)
        · obtain ⟨h1, h2⟩ := Bool.and_eq_true_iff.mp h
          have h2 := of_decide_eq_true h2
          refine sjs_ret (ed_tup (ad_consd (ed_tup (ad_consd (ed_var 2) (ad_consd (ed_var 6) (ad_consd (ed_var 9) ad_nild)))) (ad_consd (ed_var 12) ad_nild))) ?_
          have e0 : k.ans = none := by simpa using h1
          simp only [furCalls, e0, if_pos h2] at hJ
          rw [← hI]
          simp only [furFrom, ← hJ]
          rfl
        · refine sjs_nil ⟨?_, _, _, _, _, _, rfl⟩
          rw [← hJ]
          cases e0 : k.ans with
          | some a => simp only [furCalls, e0]
          | none =>
            rw [e0] at h
            have h2 : ¬ k.last + S.patience ≤ st.clock := by simpa using h
            simp only [furCalls, e0, if_neg h2]
      · rintro ρ ⟨hJ, a, b, e, f, g, rfl⟩
        refine ⟨?_, _, _, _, _, _, _, _, _, rfl⟩
        rw [enumD_len, List.length_map, List.drop_length] at hJ
        rw [← hI]
        simp only [furFrom, ← hJ, furCalls]
    · rintro ρ ⟨hI, x, y, z, a, b, e, f, g, rfl⟩
      rw [← hI, enumD_len, List.length_map, List.drop_length]
      rfl
    · rintro ρ h
      rw [h]
      exact sjs_ret ed_non rfl
/-! ### due -/
theorem sc_due : FnScope ["setting", "state", "caller", "purse", "tries", "groups", "key", "found"] ["setting", "state", "caller"] (defScope (top 38)) := ⟨rfl, rfl, rfl, by decide +kernel, rfl, by decide +kernel, by decide +kernel⟩
def LaneOk (st : State) (c : Nat) : Prop := ∀ g G, grp st c g = some G → ∀ k ∈ G.calls, k.lane ≤ 1
def R_due (ds : List PyData) (d : PyData) : Prop := ∃ (S : Setting) (st : State) (c : Nat), ds = [eSetting S, eState st, dI c] ∧ Shp S st ∧ c < st.callers.length ∧ LaneOk st c ∧ d = eDue (dueS S st c)
theorem furCalls_lane {S : Setting} {clock c g : Nat} {k : Key} {l : Nat} : ∀ {cs : List Call} {n : Nat}, furCalls S clock c g n cs = some (k, l) → ∃ x ∈ cs, l = x.lane
  | [], n, h => by cases h
  | x :: r, n, h => by
    unfold furCalls at h
    split at h
    · split at h
      · cases h; exact ⟨x, List.mem_cons_self, rfl⟩
      · obtain ⟨y, h1, h2⟩ := furCalls_lane h; exact ⟨y, List.mem_cons_of_mem _ h1, h2⟩
    · obtain ⟨y, h1, h2⟩ := furCalls_lane h; exact ⟨y, List.mem_cons_of_mem _ h1, h2⟩
theorem furFrom_lane {S : Setting} {clock c : Nat} {k : Key} {l : Nat} : ∀ {gs : List Grp} {g : Nat}, furFrom S clock c g gs = some (k, l) → ∃ G ∈ gs, ∃ x ∈ G.calls, l = x.lane
  | [], n, h => by cases h
  | G :: r, g, h => by
    unfold furFrom at h
    split at h
    · rename_i x e
      cases h
      obtain ⟨y, h1, h2⟩ := furCalls_lane e
      exact ⟨G, List.mem_cons_self, y, h1, h2⟩
    · obtain ⟨G', h1, h2⟩ := furFrom_lane h
      exact ⟨G', List.mem_cons_of_mem _ h1, h2⟩
theorem c_due {a0 : Addr} (T : Bl mg) (W : Wh K mg a0) (O : Own K mg "due" (defD "due" (top 38)) []) (c1 : Cal P w K mg base 1 "is_number" (PSp K R_is_number) []) (c2 : Cal P w K mg base 1 "first_due" (PSp K R_first_due) []) (c3 : Cal P w K mg base 1 "further_due" (PSp K R_further_due) []) (c4 : Cal P w K mg base 1 "is_less" (ASp K (R_is_lessW a0)) []) :
    Cal P w K mg base 2 "due" (PSp K R_due) [] := by
  refine cal_pure O sc_due ?_ (by decide) (fun _ _ _ _ _ _ us hl => match us, hl with | [_, _, _], _ => rfl) ?_
  · rintro ds d ⟨S, st, c, rfl, _⟩; rfl
  · rintro f cdv A outer s H E hr ds d ⟨S, st, c, rfl, sh, hc, la, rfl⟩
    have nd := sc_due.nd
    obtain ⟨clr, hclr⟩ : ∃ clr, st.callers[c]? = some clr := ⟨_, List.getElem?_eq_getElem hc⟩
    refine sjs_skip ((TW.td (k := false) (tw_or (k := false) (m := false) (td_not (k := true) (td_val (ed_call c1 hr (ad_consd (ed_var 2) ad_nild) ⟨c, rfl, rfl⟩))) fun _ => tw_or1 (td_is (td_gen (ed_var 2) (ed_lenM eClr T.len (ed_ic (ed_var 1) rfl))) (decide_eq_false (by omega)))))) ?_
    refine sjs_asg (ed_xm eClr (ed_ic (ed_var 1) rfl) (ed_var 2) hclr) (gd_tup rfl (gds_cons (gd_name 3 nd) (gds_cons (gd_name 4 nd) (gds_cons (gd_name 5 nd) gds_nil))) rfl) ?_
    refine sjs_set 6 (ed_call c2 hr (ad_consd (ed_var 0) (ad_consd (ed_var 1) (ad_consd (ed_var 2) ad_nild))) ⟨S, st, c, rfl, sh, hc, rfl⟩) ?_ nd
    have eT : triesOf st c = clr.tries := by unfold triesOf; rw [hclr]; rfl
    have eP : purseOf st c = clr.purse := by unfold purseOf; rw [hclr]; rfl
    cases e1 : firstDue S st c with
    | some k =>
      refine sjs_takeR (td_is (td_notN (ed_var 6)) (m := true) rfl) (sjs_ret (ed_tup (ad_consd ed_str (ad_consd (ed_var 6) (ad_consd (ed_modn (ed_var 4) ed_k (by decide)) ad_nild)))) ?_)
      simp only [dueS, e1, eT]
      rfl
    | none =>
      refine sjs_skip (td_is (td_notN (ed_var 6)) (m := false) rfl) ?_
      cases e2 : fless clr.purse whole with
      | true =>
        refine sjs_set 7 (y := .d .none) (ev_if (k := false) (td_not (k := true) (td_val (ed_callA c4 hr (ad_cons (ed_var 3) (ad_cons (ev_glob (v := .ref a0) W.m rfl) ad_nil)) ⟨clr.purse, rfl, by rw [← e2]; rfl⟩))) (fun z => by cases z) fun _ => ed_non) ?_ nd
        refine sjs_ret (ev_if (k := true) (td_is (td_isN (ed_var 7)) rfl) (fun _ => ed_tup (ad_consd ed_str ad_nild)) fun z => by cases z) ?_
        simp only [dueS, e1, eP, e2]
        rfl
      | false =>
        refine sjs_set 7 (y := .d (eOFur (furDue S st c))) (ev_if (k := true) (td_not (k := false) (td_val (ed_callA c4 hr (ad_cons (ed_var 3) (ad_cons (ev_glob (v := .ref a0) W.m rfl) ad_nil)) ⟨clr.purse, rfl, by rw [← e2]; rfl⟩))) (fun _ => ed_call c3 hr (ad_consd (ed_var 0) (ad_consd (ed_var 1) (ad_consd (ed_var 2) ad_nild))) ⟨S, st, c, rfl, hc, rfl⟩) fun z => by cases z) ?_ nd
        cases e3 : furDue S st c with
        | none =>
          refine sjs_ret (ev_if (k := true) (td_is (td_isN (ed_var 7)) rfl) (fun _ => ed_tup (ad_consd ed_str ad_nild)) fun z => by cases z) ?_
          simp only [dueS, e1, eP, e2, e3]
          rfl
        | some p =>
          obtain ⟨k, l⟩ := p
          have hl : l ≤ 1 := by
            unfold furDue at e3
            rw [hclr] at e3
            obtain ⟨G, h1, x, h2, rfl⟩ := furFrom_lane (show furFrom S st.clock c 0 clr.groups = some (k, l) from e3)
            obtain ⟨g, hg⟩ := List.mem_iff_getElem?.mp h1
            exact la g G (grp_mk hclr hg) x h2
          refine sjs_ret (ev_if (k := false) (td_is (td_isN (ed_var 7)) rfl) (fun z => by cases z) fun _ => ed_tup (ad_consd ed_str (ad_consd (ed_ic (ed_var 7) rfl) (ad_consd (ed_subn ed_k (ed_ic (ed_var 7) rfl) hl) ad_nild)))) ?_
          simp only [dueS, e1, eP, e2, e3]
          rfl
end
end TC
set_option linter.all false
/-! What is due, in plain Lean. -/
namespace TC
theorem firstFrom_some {S : Setting} {c : Nat} {k : Key} : ∀ {gs : List Grp} {g : Nat}, firstFrom S c g gs = some k → ∃ i G, gs[i]? = some G ∧ k = ⟨c, g + i, G.calls.length⟩ ∧ G.calls.length < lenS S c (g + i) ∧ G.calls.length < G.heard + S.window
  | [], g, h => by cases h
  | G :: r, g, h => by
    unfold firstFrom at h
    split at h
    · rename_i q
      cases h
      exact ⟨0, G, rfl, rfl, by simp only [Nat.add_zero]; omega, by omega⟩
    · obtain ⟨i, G', h1, h2, h3, h4⟩ := firstFrom_some h
      have e : g + 1 + i = g + (i + 1) := by omega
      rw [e] at h2 h3
      exact ⟨i + 1, G', by simpa using h1, h2, h3, h4⟩
theorem firstFrom_none {S : Setting} {c : Nat} : ∀ {gs : List Grp} {g : Nat}, firstFrom S c g gs = none → ∀ (i : Nat) (G : Grp), gs[i]? = some G → lenS S c (g + i) ≤ G.calls.length ∨ G.heard + S.window ≤ G.calls.length
  | [], g, h, i, G, e => by simp at e
  | G :: r, g, h, i, G', e => by
    unfold firstFrom at h
    split at h
    · cases h
    · rename_i q
      cases i with
      | zero =>
        simp at e
        subst e
        simp only [Nat.add_zero]
        omega
      | succ i =>
        have z := firstFrom_none h i G' (by simpa using e)
        have e : g + 1 + i = g + (i + 1) := by omega
        rwa [e] at z
theorem furCalls_some {S : Setting} {clock c g : Nat} {k : Key} {l : Nat} : ∀ {cs : List Call} {n : Nat}, furCalls S clock c g n cs = some (k, l) → ∃ i x, cs[i]? = some x ∧ k = ⟨c, g, n + i⟩ ∧ l = x.lane ∧ x.ans = none ∧ x.last + S.patience ≤ clock
  | [], n, h => by cases h
  | x :: r, n, h => by
    have step : furCalls S clock c g (n + 1) r = some (k, l) → ∃ i y, (x :: r)[i]? = some y ∧ k = ⟨c, g, n + i⟩ ∧ l = y.lane ∧ y.ans = none ∧ y.last + S.patience ≤ clock := fun h => by
      obtain ⟨i, y, h1, h2, h3⟩ := furCalls_some h
      have e : n + 1 + i = n + (i + 1) := by omega
      rw [e] at h2
      exact ⟨i + 1, y, by simpa using h1, h2, h3⟩
    unfold furCalls at h
    split at h
    · rename_i e
      split at h
      · rename_i q
        cases h
        exact ⟨0, x, rfl, rfl, rfl, e, q⟩
      · exact step h
    · exact step h
theorem furCalls_none {S : Setting} {clock c g : Nat} : ∀ {cs : List Call} {n : Nat}, furCalls S clock c g n cs = none → ∀ (i : Nat) (x : Call), cs[i]? = some x → x.ans = none → clock < x.last + S.patience
  | [], n, h, i, x, e, _ => by simp at e
  | y :: r, n, h, i, x, e, ha => by
    unfold furCalls at h
    cases i with
    | zero =>
      simp at e
      subst e
      rw [ha] at h
      simp only at h
      split at h
      · cases h
      · omega
    | succ i =>
      have e : r[i]? = some x := by simpa using e
      split at h
      · split at h
        · cases h
        · exact furCalls_none h i x e ha
      · exact furCalls_none h i x e ha
theorem furFrom_some {S : Setting} {clock c : Nat} {k : Key} {l : Nat} : ∀ {gs : List Grp} {g : Nat}, furFrom S clock c g gs = some (k, l) → ∃ i G n x, gs[i]? = some G ∧ G.calls[n]? = some x ∧ k = ⟨c, g + i, n⟩ ∧ l = x.lane ∧ x.ans = none ∧ x.last + S.patience ≤ clock
  | [], n, h => by cases h
  | G :: r, g, h => by
    unfold furFrom at h
    split at h
    · rename_i x e
      cases h
      obtain ⟨n, x, h1, h2, h3⟩ := furCalls_some e
      rw [Nat.zero_add] at h2
      exact ⟨0, G, n, x, rfl, h1, h2, h3⟩
    · obtain ⟨i, G', n, x, h1, h2, h3, h4⟩ := furFrom_some h
      have e : g + 1 + i = g + (i + 1) := by omega
      rw [e] at h3
      exact ⟨i + 1, G', n, x, by simpa using h1, h2, h3, h4⟩
theorem furFrom_none {S : Setting} {clock c : Nat} : ∀ {gs : List Grp} {g : Nat}, furFrom S clock c g gs = none → ∀ (i : Nat) (G : Grp) (n : Nat) (x : Call), gs[i]? = some G → G.calls[n]? = some x → x.ans = none → clock < x.last + S.patience
  | [], g, h, i, G, n, x, e, _, _ => by simp at e
  | G :: r, g, h, i, G', n, x, e, e2, ha => by
    unfold furFrom at h
    split at h
    · cases h
    · rename_i q
      cases i with
      | zero => simp at e; subst e; exact furCalls_none q n x e2 ha
      | succ i => exact furFrom_none h i G' n x (by simpa using e) e2 ha
/-- a first call is due -/
theorem due_first {S : Setting} {st : State} {c : Nat} {k : Key} {l : Nat} (h : dueS S st c = .first k l) : ∃ clr G, st.callers[c]? = some clr ∧ clr.groups[k.g]? = some G ∧ k.c = c ∧ k.n = G.calls.length ∧ k.n < lenS S c k.g ∧ k.n < G.heard + S.window ∧ l < 2 := by
  unfold dueS at h
  split at h
  · rename_i k' e
    cases h
    unfold firstDue at e
    cases q : st.callers[c]? with
    | none => rw [q] at e; cases e
    | some clr =>
      rw [q] at e
      obtain ⟨i, G, h1, rfl, h3, h4⟩ := firstFrom_some (show firstFrom S c 0 clr.groups = some k from e)
      rw [Nat.zero_add] at h3
      exact ⟨clr, G, rfl, by simpa using h1, rfl, rfl, by simpa using h3, h4, Nat.mod_lt _ (by decide)⟩
  · split at h
    · cases h
    · split at h <;> cases h
/-- a further call is due -/
theorem due_further {S : Setting} {st : State} {c : Nat} {k : Key} {l : Nat} (h : dueS S st c = .further k l) : ∃ clr G x, st.callers[c]? = some clr ∧ clr.groups[k.g]? = some G ∧ G.calls[k.n]? = some x ∧ k.c = c ∧ l = 1 - x.lane ∧ x.ans = none ∧ x.last + S.patience ≤ st.clock ∧ fless clr.purse whole = false ∧ firstDue S st c = none := by
  unfold dueS at h
  split at h
  · cases h
  · rename_i e0
    split at h
    · cases h
    · rename_i e1
      split at h
      · rename_i k' l' e2
        cases h
        unfold furDue at e2
        cases q : st.callers[c]? with
        | none => rw [q] at e2; cases e2
        | some clr =>
          rw [q] at e2
          obtain ⟨i, G, n, x, h1, h2, rfl, rfl, h4, h5⟩ := furFrom_some (show furFrom S st.clock c 0 clr.groups = some (k, l') from e2)
          have e1 : ¬ fless clr.purse whole = true := by unfold purseOf at e1; rw [q] at e1; exact e1
          exact ⟨clr, G, x, rfl, by simpa using h1, h2, rfl, rfl, h4, h5, by simpa using e1, e0⟩
      · cases h
/-- nothing is due -/
theorem due_nothing {S : Setting} {st : State} {c : Nat} (h : dueS S st c = .nothing) : firstDue S st c = none ∧ (fless (purseOf st c) whole = true ∨ furDue S st c = none) := by
  unfold dueS at h
  split at h
  · cases h
  · rename_i e0
    split at h
    · rename_i e1; exact ⟨e0, .inl e1⟩
    · split at h
      · cases h
      · rename_i e; exact ⟨e0, .inr e⟩
end TC
set_option Elab.async false
set_option linter.all false
set_option maxRecDepth 100000
set_option maxHeartbeats 4000000
/-! Defs, part 7: a caller goes, a caller hears. -/
namespace TC
open PySem L2
theorem set_map {α : Type} {f : α → PyData} {xs : List α} {c : Nat} {x : α} (h : c < xs.length) : (xs.map f).take c ++ [f x] ++ (xs.map f).drop (c + 1) = (xs.set c x).map f := by
  rw [List.set_eq_take_append_cons_drop, if_pos h, List.map_append, List.map_cons, List.map_take, List.map_drop, List.append_assoc]
  rfl
theorem lay_due (d : Due) : Lay 2 (eDue d) := by
  cases d with
  | nothing => exact (lay_tup (lay_cons (lay_str (by decide +kernel)) lay_nil)).up (by decide)
  | first k l => exact lay_tup (lay_cons ((lay_str (by decide +kernel)).up (by decide)) (lay_cons (lay_key k) (lay_cons ((lay_I _).up (by decide)) lay_nil)))
  | further k l => exact lay_tup (lay_cons ((lay_str (by decide +kernel)).up (by decide)) (lay_cons (lay_key k) (lay_cons ((lay_I _).up (by decide)) lay_nil)))
def Due.no : Due → Bool
  | .nothing => true
  | _ => false
theorem eqv_due (d : Due) : PyData.eqv (eDue d) (.tuple [.str "nothing"]) = d.no := by
  cases d with
  | nothing => exact (lay_due .nothing).rf
  | first k l => simp [eDue, PyData.eqv, PyData.eqvAll, Due.no]
  | further k l => simp [eDue, PyData.eqv, PyData.eqvAll, Due.no]
section
variable {P : Program} {w : World} {K : PySem.W.Frag} {mg : Str → Option Value} {base : Heap}
theorem sc_with_caller : FnScope ["state", "caller", "row"] ["state", "caller", "row"] (defScope (top 39)) := ⟨rfl, rfl, rfl, by decide +kernel, rfl, by decide +kernel, by decide +kernel⟩
def R_with_caller (ds : List PyData) (d : PyData) : Prop := ∃ (st : State) (c : Nat) (row : Clr), ds = [eState st, dI c, eClr row] ∧ c < st.callers.length ∧ st.callers.length ≤ 1000 ∧ d = eState (withCaller st c row)
theorem c_with_caller (O : Own K mg "with_caller" (defD "with_caller" (top 39)) []) : Cal P w K mg base 1 "with_caller" (PSp K R_with_caller) [] := by
  refine cal_pure O sc_with_caller ?_ (by decide) (fun _ _ _ _ _ _ us hl => match us, hl with | [_, _, _], _ => rfl) ?_
  · rintro ds d ⟨st, c, row, rfl, _⟩; rfl
  · rintro f cdv A outer s H E hr ds d ⟨st, c, row, rfl, hc, hz, rfl⟩
    have h1 := sz
    refine sjs_ret (ed_is (ed_cat (ed_tup (ad_consd (ed_ic (ed_var 0) rfl) (ad_consd (ed_cat (ed_cat (ed_toE (ed_ic (ed_var 0) rfl) (ed_var 1)) (ed_tup (ad_consd (ed_var 2) ad_nild)) ?_) (ed_fromE (ed_ic (ed_var 0) rfl) (ed_addn (ed_var 1) ed_k)) ?_) ad_nild))) (ed_from (ed_var 0)) ?_) ?_) rfl
    · simp only [List.length_take, List.length_map, List.length_cons, List.length_nil]; omega
    · simp only [List.length_append, List.length_take, List.length_drop, List.length_map, List.length_cons, List.length_nil]; omega
    · show 4 ≤ sizeLine; omega
    · rw [set_map hc]; rfl
theorem sc_with_calls : FnScope ["groups", "group", "calls"] ["groups", "group", "calls"] (defScope (top 40)) := ⟨rfl, rfl, rfl, by decide +kernel, rfl, by decide +kernel, by decide +kernel⟩
def R_with_calls (ds : List PyData) (d : PyData) : Prop := ∃ (gs : List Grp) (g : Nat) (cs : List Call), ds = [.tuple (gs.map eGrp), dI g, .tuple (cs.map eCall)] ∧ g < gs.length ∧ gs.length ≤ 1000 ∧ d = .tuple ((withCalls gs g cs).map eGrp)
theorem c_with_calls (O : Own K mg "with_calls" (defD "with_calls" (top 40)) []) (c1 : Cal P w K mg base 1 "heard_of" (PSp K R_heard_of) []) : Cal P w K mg base 2 "with_calls" (PSp K R_with_calls) [] := by
  refine cal_pure O sc_with_calls ?_ (by decide) (fun _ _ _ _ _ _ us hl => match us, hl with | [_, _, _], _ => rfl) ?_
  · rintro ds d ⟨gs, g, cs, rfl, _⟩; rfl
  · rintro f cdv A outer s H E hr ds d ⟨gs, g, cs, rfl, hc, hz, rfl⟩
    have h1 := sz
    refine sjs_ret (ed_is (ed_cat (ed_cat (ed_toE (ed_var 0) (ed_var 1)) (ed_tup (ad_consd (ed_tup (ad_consd (ed_call c1 hr (ad_consd (ed_var 2) ad_nild) ⟨cs, rfl, rfl⟩) (ad_consd (ed_var 2) ad_nild))) ad_nild)) ?_) (ed_fromE (ed_var 0) (ed_addn (ed_var 1) ed_k)) ?_) ?_) rfl
    · simp only [List.length_take, List.length_map, List.length_cons, List.length_nil]; omega
    · simp only [List.length_append, List.length_take, List.length_drop, List.length_map, List.length_cons, List.length_nil]; omega
    · exact congrArg PyData.tuple (set_map (f := eGrp) (x := ⟨heardOf cs, cs⟩) hc)
theorem sc_sent : FnScope ["state", "lane", "letter", "lanes"] ["state", "lane", "letter"] (defScope (top 41)) := ⟨rfl, rfl, rfl, by decide +kernel, rfl, by decide +kernel, by decide +kernel⟩
def R_sent (ds : List PyData) (d : PyData) : Prop := ∃ (st : State) (l : Nat) (x : Letter), ds = [eState st, dI l, eLetter x] ∧ l < st.lanes.length ∧ (lane st l).length < 1000000 ∧ d = eState (sentS st l x)
theorem lane_at {st : State} {l : Nat} (h : l < st.lanes.length) : st.lanes[l]? = some (lane st l) := by
  unfold lane
  rw [List.getElem?_eq_getElem h]; rfl
theorem lanes_at {st : State} {l : Nat} (h : l < st.lanes.length) : (st.lanes.map eLane)[l]? = some (.tuple ((lane st l).map eLetter)) := by
  rw [List.getElem?_map, lane_at h]; rfl
theorem c_sent (T : Bl mg) (O : Own K mg "sent" (defD "sent" (top 41)) []) : Cal P w K mg base 1 "sent" (PSp K R_sent) [] := by
  refine cal_pure O sc_sent ?_ (by decide) (fun _ _ _ _ _ _ us hl => match us, hl with | [_, _, _], _ => rfl) ?_
  · rintro ds d ⟨st, l, x, rfl, _⟩; rfl
  · rintro f cdv A outer s H E hr ds d ⟨st, l, x, rfl, hl, hz, rfl⟩
    have h1 := sz
    have nd := sc_sent.nd
    refine sjs_set 3 (ev_lstOf T.list (ed_ic (ed_var 0) rfl)) ?_ nd
    refine sjs_put 3 (ed_cat (ed_xnL (er_var 3) (ed_var 1) (lanes_at hl)) (ed_tup (ad_consd (ed_var 2) ad_nild)) ?_) (ed_var 1) rfl (by rw [List.length_map]; exact hl) ?_ (slot_name 3)
    · simp only [List.length_map, List.length_cons, List.length_nil]; omega
    · refine sjs_ret (ed_is (ed_cat (ed_cat (ed_to (ed_var 0)) (ed_tup (ad_consd (ed_tupOf T.tuple (er_var 3)) ad_nild)) ?_) (ed_from (ed_var 0)) ?_) ?_) rfl
      · show 3 ≤ sizeLine; omega
      · show 4 ≤ sizeLine; omega
      · unfold sentS eState
        simp only [List.map_set]
        simp [eLane]
theorem sc_ask_of : FnScope ["setting", "state", "key", "heard", "calls", "cell", "number", "span"] ["setting", "state", "key"] (defScope (top 42)) := ⟨rfl, rfl, rfl, by decide +kernel, rfl, by decide +kernel, by decide +kernel⟩
def R_ask_of (ds : List PyData) (d : PyData) : Prop := ∃ (S : Setting) (st : State) (k : Key) (x : CallS) (G : Grp) (y : Call), WfS S ∧ ds = [eSetting S, eState st, eKey k] ∧ callS S k = some x ∧ grp st k.c k.g = some G ∧ G.calls[k.n]? = some y ∧ d = eLetter (askOf S st k)
theorem c_ask_of (O : Own K mg "ask_of" (defD "ask_of" (top 42)) []) (c1 : Cal P w K mg base 6 "call_of" (PSp K R_call_of) []) : Cal P w K mg base 7 "ask_of" (PSp K R_ask_of) [] := by
  refine cal_pure O sc_ask_of ?_ (by decide) (fun _ _ _ _ _ _ us hl => match us, hl with | [_, _, _], _ => rfl) ?_
  · rintro ds d ⟨S, st, k, x, G, y, _, rfl, _⟩; rfl
  · rintro f cdv A outer s H E hr ds d ⟨S, st, k, x, G, y, wf, rfl, hx, hG, hy, rfl⟩
    have nd := sc_ask_of.nd
    obtain ⟨clr, g1, g2⟩ := grp_at hG
    refine sjs_asg (ed_xm eGrp (ed_ic (ed_xm eClr (ed_ic (ed_var 1) rfl) (ed_ic (ed_var 2) rfl) g1) rfl) (ed_ic (ed_var 2) rfl) g2) (gd_tup rfl (gds_cons (gd_name 3 nd) (gds_cons (gd_name 4 nd) gds_nil)) rfl) ?_
    refine sjs_asg (ed_call c1 hr (ad_consd (ed_var 0) (ad_consd (ed_var 2) ad_nild)) ⟨S, k, x, wf, rfl, hx, rfl⟩) (gd_tup rfl (gds_cons (gd_name 5 nd) (gds_cons (gd_name 6 nd) (gds_cons (gd_name 7 nd) gds_nil))) rfl) ?_
    refine sjs_ret (ed_is (ed_tup (ad_consd ed_str (ad_consd (ed_var 2) (ad_consd (ed_var 5) (ad_consd (ed_var 6) (ad_consd (ed_addn (ed_ic (ed_xm eCall (ed_var 4) (ed_ic (ed_var 2) rfl) hy) rfl) (ed_var 7)) (ad_consd (ed_var 3) ad_nild))))))) ?_) rfl
    have e1 : callSD S k = x := by unfold callSD; rw [hx]; rfl
    have e2 : callD st k = y := by unfold callD callAt; rw [hG]; simp [hy]
    have e3 : grpD st k.c k.g = G := by unfold grpD; rw [hG]; rfl
    unfold askOf
    rw [e1, e2, e3]
    rfl
/-! ### is_new, heard_tell -/
theorem sc_is_new : FnScope ["state", "key", "calls"] ["state", "key"] (defScope (top 44)) := ⟨rfl, rfl, rfl, by decide +kernel, rfl, by decide +kernel, by decide +kernel⟩
def R_is_new (ds : List PyData) (d : PyData) : Prop := ∃ (st : State) (k : Key) (G : Grp), ds = [eState st, eKey k] ∧ grp st k.c k.g = some G ∧ d = .bool (isNew st k)
theorem c_is_new (T : Bl mg) (O : Own K mg "is_new" (defD "is_new" (top 44)) []) : Cal P w K mg base 1 "is_new" (PSp K R_is_new) [] := by
  refine cal_pure O sc_is_new ?_ (by decide) (fun _ _ _ _ _ _ us hl => match us, hl with | [_, _], _ => rfl) ?_
  · rintro ds d ⟨st, k, G, rfl, _⟩; rfl
  · rintro f cdv A outer s H E hr ds d ⟨st, k, G, rfl, hG, rfl⟩
    have nd := sc_is_new.nd
    obtain ⟨clr, g1, g2⟩ := grp_at hG
    refine sjs_set 2 (ed_ic (ed_xm eGrp (ed_ic (ed_xm eClr (ed_ic (ed_var 0) rfl) (ed_ic (ed_var 1) rfl) g1) rfl) (ed_ic (ed_var 1) rfl) g2) rfl) ?_ nd
    cases e : G.calls[k.n]? with
    | none =>
      have hl := List.getElem?_eq_none_iff.mp e
      refine sjs_ret (ed_is (ed_andB (k := false) (m := false) (ed_is (ed_ltn (ed_ic (ed_var 1) rfl) (ed_lenM eCall T.len (ed_var 2))) (by rw [decide_eq_false (by omega)])) fun z => by cases z) ?_) rfl
      unfold isNew callAt
      rw [hG]
      simp only [Option.bind_some, e]
      rfl
    | some x =>
      have hl := (List.getElem?_eq_some_iff.mp e).1
      refine sjs_ret (ed_is (ed_andB (k := true) (m := x.ans.isNone) (ed_is (ed_ltn (ed_ic (ed_var 1) rfl) (ed_lenM eCall T.len (ed_var 2))) (by rw [decide_eq_true (by omega)])) fun _ => ed_one (ed_is (ed_isN (ed_ic (ed_xm eCall (ed_var 2) (ed_ic (ed_var 1) rfl) e) rfl)) (by rw [isNo_ans]))) ?_) rfl
      unfold isNew callAt
      rw [hG]
      simp only [Option.bind_some, e, Bool.true_and]
theorem sc_heard_tell : FnScope ["setting", "state", "letter", "word", "caller", "group", "n", "answer", "purse", "tries", "groups", "calls"] ["setting", "state", "letter"] (defScope (top 45)) := ⟨rfl, rfl, rfl, by decide +kernel, rfl, by decide +kernel, by decide +kernel⟩
def R_heard_tell (ds : List PyData) (d : PyData) : Prop := ∃ (S : Setting) (st : State) (k : Key) (a : Ans) (clr : Clr) (G : Grp), ds = [eSetting S, eState st, eLetter (.tell k a)] ∧ st.callers[k.c]? = some clr ∧ clr.groups[k.g]? = some G ∧ st.callers.length ≤ 1000 ∧ clr.groups.length ≤ 1000 ∧ G.calls.length ≤ 1000 ∧ d = eState (heardTell st k a)
theorem c_heard_tell (O : Own K mg "heard_tell" (defD "heard_tell" (top 45)) []) (c1 : Cal P w K mg base 1 "is_new" (PSp K R_is_new) []) (c2 : Cal P w K mg base 2 "with_calls" (PSp K R_with_calls) []) (c3 : Cal P w K mg base 1 "with_caller" (PSp K R_with_caller) []) : Cal P w K mg base 3 "heard_tell" (PSp K R_heard_tell) [] := by
  refine cal_pure O sc_heard_tell ?_ (by decide) (fun _ _ _ _ _ _ us hl => match us, hl with | [_, _, _], _ => rfl) ?_
  · rintro ds d ⟨S, st, k, a, clr, G, rfl, _⟩; rfl
  · rintro f cdv A outer s H E hr ds d ⟨S, st, k, a, clr, G, rfl, hclr, hG, z1, z2, z3, rfl⟩
    have nd := sc_heard_tell.nd
    have hg := grp_mk hclr hG
    have h1 := sz
    refine sjs_asg (ed_var 2) (gd_tup rfl (gds_cons (gd_name 3 nd) (gds_cons (gd_tup rfl (gds_cons (gd_name 4 nd) (gds_cons (gd_name 5 nd) (gds_cons (gd_name 6 nd) gds_nil))) rfl) (gds_cons (gd_name 7 nd) gds_nil))) rfl) ?_
    cases hn : isNew st k with
    | false =>
      refine sjs_takeR (td_not (k := false) (td_val (ed_call c1 hr (ad_consd (ed_var 1) (ad_consd (ed_tup (ad_consd (ed_var 4) (ad_consd (ed_var 5) (ad_consd (ed_var 6) ad_nild)))) ad_nild)) ⟨st, k, G, rfl, hg, by rw [hn]⟩))) (sjs_ret (ed_var 1) ?_)
      unfold heardTell
      rw [hn]
      rfl
    | true =>
      refine sjs_skip (td_not (k := true) (td_val (ed_call c1 hr (ad_consd (ed_var 1) (ad_consd (ed_tup (ad_consd (ed_var 4) (ad_consd (ed_var 5) (ad_consd (ed_var 6) ad_nild)))) ad_nild)) ⟨st, k, G, rfl, hg, by rw [hn]⟩))) ?_
      obtain ⟨x, hx⟩ : ∃ x, G.calls[k.n]? = some x := by
        unfold isNew callAt at hn
        rw [hg] at hn
        cases e : G.calls[k.n]? with
        | none => simp [e] at hn
        | some x => exact ⟨x, rfl⟩
      have hl := (List.getElem?_eq_some_iff.mp hx).1
      refine sjs_asg (ed_xm eClr (ed_ic (ed_var 1) rfl) (ed_var 4) hclr) (gd_tup rfl (gds_cons (gd_name 8 nd) (gds_cons (gd_name 9 nd) (gds_cons (gd_name 10 nd) gds_nil))) rfl) ?_
      refine sjs_set 11 (ed_ic (ed_xm eGrp (ed_var 10) (ed_var 5) hG) rfl) ?_ nd
      refine sjs_set 11 (y := .d (.tuple ((G.calls.set k.n { x with ans := some a }).map eCall))) (ed_is (ed_cat (ed_cat (ed_toE (ed_var 11) (ed_var 6)) (ed_tup (ad_consd (ed_cat (ed_to (ed_xm eCall (ed_var 11) (ed_var 6) hx)) (ed_tup (ad_consd (ed_var 7) ad_nild)) ?_) ad_nild)) ?_) (ed_fromE (ed_var 11) (ed_addn (ed_var 6) ed_k)) ?_) ?_) ?_ nd
      · show 4 ≤ sizeLine; omega
      · simp only [List.length_take, List.length_map, List.length_cons, List.length_nil]; omega
      · simp only [List.length_append, List.length_take, List.length_drop, List.length_map, List.length_cons, List.length_nil]; omega
      · exact congrArg PyData.tuple (set_map (f := eCall) (x := { x with ans := some a }) hl)
      · refine sjs_ret (ed_is (ed_call c3 hr (ad_consd (ed_var 1) (ad_consd (ed_var 4) (ad_consd (ed_tup (ad_consd (ed_var 8) (ad_consd (ed_var 9) (ad_consd (ed_call c2 hr (ad_consd (ed_var 10) (ad_consd (ed_var 5) (ad_consd (ed_var 11) ad_nild))) ⟨clr.groups, k.g, _, rfl, (List.getElem?_eq_some_iff.mp hG).1, z2, rfl⟩) ad_nild)))) ad_nild))) ⟨st, k.c, ⟨clr.purse, clr.tries, withCalls clr.groups k.g (G.calls.set k.n { x with ans := some a })⟩, rfl, (List.getElem?_eq_some_iff.mp hclr).1, z1, rfl⟩) ?_) rfl
        have e1 : clrD st k.c = clr := by unfold clrD; rw [hclr]; rfl
        have e2 : callD st k = x := by unfold callD callAt; rw [hg]; simp [hx]
        have e3 : grpD st k.c k.g = G := by unfold grpD; rw [hg]; rfl
        unfold heardTell
        rw [hn, e1, e2, e3]
        rfl
/-! ### goes -/
theorem withCalls_at {gs : List Grp} {g : Nat} {cs : List Call} (h : g < gs.length) : (withCalls gs g cs)[g]? = some ⟨heardOf cs, cs⟩ := by
  unfold withCalls
  rw [List.getElem?_set_self h]
theorem withCaller_at {st : State} {c : Nat} {row : Clr} (h : c < st.callers.length) : (withCaller st c row).callers[c]? = some row := by
  unfold withCaller
  exact List.getElem?_set_self h
theorem callS_len {S : Setting} {k : Key} (h : k.n < lenS S k.c k.g) : ∃ x, callS S k = some x := by
  unfold lenS at h
  cases e : grpS S k.c k.g with
  | none => rw [e] at h; exact absurd h (Nat.not_lt_zero _)
  | some l =>
    rw [e] at h
    refine ⟨l[k.n]'h, ?_⟩
    unfold callS
    rw [e]
    exact List.getElem?_eq_getElem h
theorem sc_goes : FnScope ["setting", "state", "caller", "found", "word", "key", "lane", "purse", "tries", "groups", "heard", "calls", "rate", "most", "later"] ["setting", "state", "caller"] (defScope (top 43)) := ⟨rfl, rfl, rfl, by decide +kernel, rfl, by decide +kernel, by decide +kernel⟩
def LenL (st : State) : Prop := ∀ l ∈ st.lanes, l.length ≤ 100000
theorem LenL.at_ {st : State} (h : LenL st) (l : Nat) : (lane st l).length ≤ 100000 := by
  unfold lane
  cases e : st.lanes[l]? with
  | none => exact Nat.zero_le _
  | some x => exact h x (List.mem_of_getElem? e)
def R_goes (ds : List PyData) (d : PyData) : Prop := ∃ (S : Setting) (st : State) (c : Nat), WfS S ∧ ds = [eSetting S, eState st, dI c] ∧ Wf S st ∧ LenL st ∧ c < S.callers.length ∧ d = .tuple [eState (goS S st c), eDue (dueS S st c)]
theorem Wf.laneOk {S : Setting} {st : State} (h : Wf S st) (c : Nat) : LaneOk st c := fun g G e => (h.grp c g G e).lane
theorem c_goes {a0 : Addr} (W : Wh K mg a0) (O : Own K mg "goes" (defD "goes" (top 43)) []) (c1 : Cal P w K mg base 2 "due" (PSp K R_due) []) (c2 : Cal P w K mg base 3 "plus" (PSp K R_plus) []) (c3 : Cal P w K mg base 2 "lesser" (PSp K R_lesser) []) (c4 : Cal P w K mg base 3 "minus" (ASp K (R_minusW a0)) [])
    (c5 : Cal P w K mg base 1 "with_caller" (PSp K R_with_caller) []) (c6 : Cal P w K mg base 2 "with_calls" (PSp K R_with_calls) []) (c7 : Cal P w K mg base 1 "sent" (PSp K R_sent) []) (c8 : Cal P w K mg base 7 "ask_of" (PSp K R_ask_of) []) : Cal P w K mg base 8 "goes" (PSp K R_goes) [] := by
  refine cal_pure O sc_goes ?_ (by decide) (fun _ _ _ _ _ _ us hl => match us, hl with | [_, _, _], _ => rfl) ?_
  · rintro ds d ⟨S, st, c, _, rfl, _⟩; rfl
  · rintro f cdv A outer s H E hr ds d ⟨S, st, c, wf, rfl, wt, zl, hc, rfl⟩
    have nd := sc_goes.nd
    have h1 := sz
    have hc' : c < st.callers.length := by rw [wt.shp.nc]; exact hc
    refine sjs_set 3 (ed_call c1 hr (ad_consd (ed_var 0) (ad_consd (ed_var 1) (ad_consd (ed_var 2) ad_nild))) ⟨S, st, c, rfl, wt.shp, hc', wt.laneOk c, rfl⟩) ?_ nd
    have zc : st.callers.length ≤ 3 := by rw [wt.shp.nc]; exact wf.nc
    cases hD : dueS S st c with
    | nothing =>
      refine sjs_takeR (td_is (td_eqD (roomU64 hr) (ed_var 3) (ed_tup (ad_consd ed_str ad_nild)) (lay_due .nothing).shaped (lay_due .nothing).shaped) (lay_due .nothing).rf) (sjs_ret (ed_tup (ad_consd (ed_var 1) (ad_consd (ed_var 3) ad_nild))) ?_)
      unfold goS
      rw [hD]
    | first k l =>
      obtain ⟨clr, G, hclr, hG, rfl, hn, hnl, _, hl⟩ := due_first hD
      obtain ⟨cs, hcs, hlen⟩ := wt.shp.clrS hclr
      have hm : cs ∈ S.callers := List.mem_of_getElem? hcs
      have hg := grp_mk hclr hG
      have hgl := (List.getElem?_eq_some_iff.mp hG).1
      have zg := wf.ng cs hm
      have pu := wt.purse clr (List.mem_of_getElem? hclr)
      have ra := wf.rate cs hm
      have mo := wf.most cs hm
      obtain ⟨x, hx⟩ := callS_len hnl
      have zn : G.calls.length ≤ 4 := by
        obtain ⟨l', e1, _⟩ := callS_at hx
        have := wf.grp e1
        have := (wt.grp _ _ _ hg).len
        unfold lenS at this
        rw [e1] at this
        exact Nat.le_trans this (by assumption)
      refine sjs_skip (td_is (td_eqD (roomU64 hr) (ed_var 3) (ed_tup (ad_consd ed_str ad_nild)) (lay_due (.first k l)).shaped (lay_due .nothing).shaped) (eqv_due _)) ?_
      refine sjs_asg (ed_var 3) (gd_tup rfl (gds_cons (gd_name 4 nd) (gds_cons (gd_name 5 nd) (gds_cons (gd_name 6 nd) gds_nil))) rfl) ?_
      refine sjs_asg (ed_xm eClr (ed_ic (ed_var 1) rfl) (ed_var 2) hclr) (gd_tup rfl (gds_cons (gd_name 7 nd) (gds_cons (gd_name 8 nd) (gds_cons (gd_name 9 nd) gds_nil))) rfl) ?_
      refine sjs_asg (ed_xm eGrp (ed_var 9) (ed_ic (ed_var 5) rfl) hG) (gd_tup rfl (gds_cons (gd_name 10 nd) (gds_cons (gd_name 11 nd) gds_nil)) rfl) ?_
      refine SJs.to [.d (eSetting S), .d (eState st), .d (dI k.c), .d (eDue (.first k l)), .d (.str "first"), .d (eKey k), .d (dI l), .d (eFr clr.purse), .d (dI clr.tries), .d (.tuple (clr.groups.map eGrp)), .d (dI G.heard), .d (.tuple (G.calls.map eCall)), .no, .no, .no] ?_
      refine sjs_take (M := fun ρ' => ρ' = [.d (eSetting S), .d (eState st), .d (dI k.c), .d (eDue (.first k l)), .d (.str "first"), .d (eKey k), .d (dI l), .d (eFr (flesser (fplus clr.purse cs.rate) cs.most)), .d (dI clr.tries), .d (.tuple (clr.groups.map eGrp)), .d (dI G.heard), .d (.tuple ((G.calls ++ [Call.mk st.clock st.clock l none]).map eCall)), .d (eFr cs.rate), .d (eFr cs.most), .no]) (td_is (td_eqS (ed_var 4) ed_str) (m := true) (by decide +kernel)) ?_ ?_
      · refine sjs_asg (ed_from (ed_xm eClrS (ed_ic (ed_var 0) rfl) (ed_var 2) hcs)) (gd_tup rfl (gds_cons (gd_name 12 nd) (gds_cons (gd_name 13 nd) gds_nil)) rfl) ?_
        have p0 : 0 < clr.purse.2 * cs.rate.2 := Nat.mul_pos pu.1 ra.1
        have p1 : clr.purse.2 * cs.rate.2 ≤ 6 * 3 := Nat.mul_le_mul pu.2 ra.2.1
        refine sjs_set 7 (ed_call c3 hr (ad_consd (ed_call c2 hr (ad_consd (ed_var 7) (ad_consd (ed_var 12) ad_nild)) ⟨clr.purse, cs.rate, rfl, ⟨by omega, by omega⟩, p0, by omega, rfl⟩) (ad_consd (ed_var 13) ad_nild)) ⟨_, cs.most, rfl, ⟨by omega, by omega⟩, rfl⟩) ?_ nd
        refine sjs_set 11 (ed_is (ed_cat (ed_var 11) (ed_tup (ad_consd (ed_tup (ad_consd (ed_ic (ed_var 1) rfl) (ad_consd (ed_ic (ed_var 1) rfl) (ad_consd (ed_var 6) (ad_consd ed_non ad_nild))))) ad_nild)) ?_) (y := .tuple ((G.calls ++ [Call.mk st.clock st.clock l none]).map eCall)) (by rw [List.map_append]; rfl)) (sjs_nil rfl) nd
        rw [List.length_map]; show G.calls.length + 1 ≤ sizeLine; omega
      · rintro ρ rfl
        have e1 : clrD st k.c = clr := by unfold clrD; rw [hclr]; rfl
        have e3 : grpD st k.c k.g = G := by unfold grpD; rw [hg]; rfl
        have e4 : clrSD S k.c = cs := by unfold clrSD; rw [hcs]; rfl
        have eT : triedS S st k.c k l true = withCaller st k.c ⟨flesser (fplus clr.purse cs.rate) cs.most, clr.tries + 1, withCalls clr.groups k.g (G.calls ++ [Call.mk st.clock st.clock l none])⟩ := by
          unfold triedS
          rw [e1, e3, e4]
          rfl
        refine sjs_set 14 (y := .d (eState (triedS S st k.c k l true))) (ed_call c5 hr (ad_consd (ed_var 1) (ad_consd (ed_var 2) (ad_consd (ed_tup (ad_consd (ed_var 7) (ad_consd (ed_addn (ed_var 8) ed_k) (ad_consd (ed_call c6 hr (ad_consd (ed_var 9) (ad_consd (ed_ic (ed_var 5) rfl) (ad_consd (ed_var 11) ad_nild))) ⟨clr.groups, k.g, _, rfl, hgl, by omega, rfl⟩) ad_nild)))) ad_nild))) ⟨st, k.c, ⟨_, clr.tries + 1, withCalls clr.groups k.g (G.calls ++ [Call.mk st.clock st.clock l none])⟩, rfl, hc', by omega, congrArg eState eT⟩) ?_ nd
        have eg : grp (triedS S st k.c k l true) k.c k.g = some ⟨heardOf (G.calls ++ [Call.mk st.clock st.clock l none]), G.calls ++ [Call.mk st.clock st.clock l none]⟩ := by
          rw [eT]
          exact grp_mk (withCaller_at hc') (withCalls_at hgl)
        have ey : (G.calls ++ [Call.mk st.clock st.clock l none])[k.n]? = some (Call.mk st.clock st.clock l none) := by rw [hn]; simp
        refine sjs_ret (ed_is (ed_tup (ad_consd (ed_call c7 hr (ad_consd (ed_var 14) (ad_consd (ed_var 6) (ad_consd (ed_call c8 hr (ad_consd (ed_var 0) (ad_consd (ed_var 14) (ad_consd (ed_var 5) ad_nild))) ⟨S, _, k, x, _, _, wf, rfl, hx, eg, ey, rfl⟩) ad_nild))) ⟨triedS S st k.c k l true, l, _, rfl, by show l < st.lanes.length; rw [wt.nl]; exact hl, Nat.lt_of_le_of_lt (zl.at_ l) (by decide), rfl⟩) (ad_consd (ed_var 3) ad_nild))) ?_) rfl
        unfold goS
        rw [hD]
    | further k l =>
      obtain ⟨clr, G, x0, hclr, hG, hx0, rfl, hl, _, _, hless, _⟩ := due_further hD
      obtain ⟨cs, hcs, hlen⟩ := wt.shp.clrS hclr
      have hm : cs ∈ S.callers := List.mem_of_getElem? hcs
      have hg := grp_mk hclr hG
      have hgl := (List.getElem?_eq_some_iff.mp hG).1
      have hnn := (List.getElem?_eq_some_iff.mp hx0).1
      have zg := wf.ng cs hm
      have pu := wt.purse clr (List.mem_of_getElem? hclr)
      have gl := (wt.grp _ _ _ hg).len
      obtain ⟨x, hx⟩ := callS_len (S := S) (k := k) (by omega)
      have zn : G.calls.length ≤ 4 := by
        obtain ⟨l', e1, _⟩ := callS_at hx
        have := wf.grp e1
        unfold lenS at gl
        rw [e1] at gl
        exact Nat.le_trans gl (by assumption)
      have p1 : clr.purse.2 * whole.2 = clr.purse.2 := Nat.mul_one _
      refine sjs_skip (td_is (td_eqD (roomU64 hr) (ed_var 3) (ed_tup (ad_consd ed_str ad_nild)) (lay_due (.further k l)).shaped (lay_due .nothing).shaped) (eqv_due _)) ?_
      refine sjs_asg (ed_var 3) (gd_tup rfl (gds_cons (gd_name 4 nd) (gds_cons (gd_name 5 nd) (gds_cons (gd_name 6 nd) gds_nil))) rfl) ?_
      refine sjs_asg (ed_xm eClr (ed_ic (ed_var 1) rfl) (ed_var 2) hclr) (gd_tup rfl (gds_cons (gd_name 7 nd) (gds_cons (gd_name 8 nd) (gds_cons (gd_name 9 nd) gds_nil))) rfl) ?_
      refine sjs_asg (ed_xm eGrp (ed_var 9) (ed_ic (ed_var 5) rfl) hG) (gd_tup rfl (gds_cons (gd_name 10 nd) (gds_cons (gd_name 11 nd) gds_nil)) rfl) ?_
      refine SJs.to [.d (eSetting S), .d (eState st), .d (dI k.c), .d (eDue (.further k l)), .d (.str "further"), .d (eKey k), .d (dI l), .d (eFr clr.purse), .d (dI clr.tries), .d (.tuple (clr.groups.map eGrp)), .d (dI G.heard), .d (.tuple (G.calls.map eCall)), .no, .no, .no] ?_
      refine sjs_else (M := fun ρ' => ρ' = [.d (eSetting S), .d (eState st), .d (dI k.c), .d (eDue (.further k l)), .d (.str "further"), .d (eKey k), .d (dI l), .d (eFr (fminus clr.purse whole)), .d (dI clr.tries), .d (.tuple (clr.groups.map eGrp)), .d (dI G.heard), .d (.tuple ((G.calls.set k.n (Call.mk x0.first st.clock l none)).map eCall)), .no, .no, .no]) (td_is (td_eqS (ed_var 4) ed_str) (m := false) (by decide +kernel)) ?_ ?_
      · refine sjs_set 7 (ed_callA c4 hr (ad_cons (ed_var 7) (ad_cons (ev_glob (v := .ref a0) W.m rfl) ad_nil)) ⟨clr.purse, rfl, hless, by omega, by omega, rfl⟩) ?_ nd
        refine sjs_set 11 (ed_is (ed_cat (ed_cat (ed_toE (ed_var 11) (ed_ic (ed_var 5) rfl)) (ed_tup (ad_consd (ed_tup (ad_consd (ed_ic (ed_xm eCall (ed_var 11) (ed_ic (ed_var 5) rfl) hx0) rfl) (ad_consd (ed_ic (ed_var 1) rfl) (ad_consd (ed_var 6) (ad_consd ed_non ad_nild))))) ad_nild)) ?_) (ed_fromE (ed_var 11) (ed_addn (ed_ic (ed_var 5) rfl) ed_k)) ?_) (y := .tuple ((G.calls.set k.n (Call.mk x0.first st.clock l none)).map eCall)) (congrArg PyData.tuple (set_map (f := eCall) (x := Call.mk x0.first st.clock l none) hnn))) (sjs_nil rfl) nd
        · simp only [List.length_take, List.length_map, List.length_cons, List.length_nil]; omega
        · simp only [List.length_append, List.length_take, List.length_drop, List.length_map, List.length_cons, List.length_nil]; omega
      · rintro ρ rfl
        have e1 : clrD st k.c = clr := by unfold clrD; rw [hclr]; rfl
        have e3 : grpD st k.c k.g = G := by unfold grpD; rw [hg]; rfl
        have e4 : callD st k = x0 := by unfold callD callAt; rw [hg]; simp [hx0]
        have eT : triedS S st k.c k l false = withCaller st k.c ⟨fminus clr.purse whole, clr.tries + 1, withCalls clr.groups k.g (G.calls.set k.n (Call.mk x0.first st.clock l none))⟩ := by
          unfold triedS
          rw [e1, e3, e4]
          rfl
        refine sjs_set 14 (y := .d (eState (triedS S st k.c k l false))) (ed_call c5 hr (ad_consd (ed_var 1) (ad_consd (ed_var 2) (ad_consd (ed_tup (ad_consd (ed_var 7) (ad_consd (ed_addn (ed_var 8) ed_k) (ad_consd (ed_call c6 hr (ad_consd (ed_var 9) (ad_consd (ed_ic (ed_var 5) rfl) (ad_consd (ed_var 11) ad_nild))) ⟨clr.groups, k.g, _, rfl, hgl, by omega, rfl⟩) ad_nild)))) ad_nild))) ⟨st, k.c, ⟨_, clr.tries + 1, withCalls clr.groups k.g (G.calls.set k.n (Call.mk x0.first st.clock l none))⟩, rfl, hc', by omega, congrArg eState eT⟩) ?_ nd
        have eg : grp (triedS S st k.c k l false) k.c k.g = some ⟨heardOf (G.calls.set k.n (Call.mk x0.first st.clock l none)), G.calls.set k.n (Call.mk x0.first st.clock l none)⟩ := by
          rw [eT]
          exact grp_mk (withCaller_at hc') (withCalls_at hgl)
        have ey : (G.calls.set k.n (Call.mk x0.first st.clock l none))[k.n]? = some (Call.mk x0.first st.clock l none) := List.getElem?_set_self hnn
        refine sjs_ret (ed_is (ed_tup (ad_consd (ed_call c7 hr (ad_consd (ed_var 14) (ad_consd (ed_var 6) (ad_consd (ed_call c8 hr (ad_consd (ed_var 0) (ad_consd (ed_var 14) (ad_consd (ed_var 5) ad_nild))) ⟨S, _, k, x, _, _, wf, rfl, hx, eg, ey, rfl⟩) ad_nild))) ⟨triedS S st k.c k l false, l, _, rfl, by show l < st.lanes.length; rw [wt.nl]; omega, Nat.lt_of_le_of_lt (zl.at_ l) (by decide), rfl⟩) (ad_consd (ed_var 3) ad_nild))) ?_) rfl
        unfold goS
        rw [hD]
end
end TC
set_option Elab.async false
set_option linter.all false
set_option maxRecDepth 100000
set_option maxHeartbeats 4000000
/-! Defs, part 8: the steps. -/
namespace TC
open PySem L2
def Ask.letter (a : Ask) : Letter := .ask a.k a.cell a.number a.last a.heard
def eTell (p : Key × Ans) : PyData := eLetter (.tell p.1 p.2)
def R_asked (ds : List PyData) (d : PyData) : Prop := ∃ (S : Setting) (st : State) (a : Ask), WfS S ∧ Wf S st ∧ Szs st ∧ LetOk st a.letter ∧ ds = [eSetting S, eHouse st.house, dI st.clock, eLetter a.letter] ∧
  d = .tuple [eHouse (closedS st.house (askS S st.house st.clock a)), .tuple ((askS S st.house st.clock a).tells.map eTell), .tuple ((askS S st.house st.clock a).keys.map eKey)]
def R_do (p : Step → Prop) (ds : List PyData) (d : PyData) : Prop := ∃ (S : Setting) (st : State) (x : Step), WfS S ∧ Wf S st ∧ Szs st ∧ Can S st x ∧ p x ∧ ds = [eSetting S, eState st, eStep x] ∧ d = .tuple [eState (stepS S st x), evS S st x]
theorem runS_tells {c g clock : Nat} : ∀ (f : Nat) (h : Hs) (ws : List Wait), (runS c g clock f h ws).tells.length ≤ h.tells.length + f
  | 0, h, ws => Nat.le_refl _
  | f + 1, h, [] => Nat.le_add_right _ _
  | f + 1, h, w :: _ => by
    unfold runS
    refine Nat.le_trans (runS_tells f _ _) ?_
    simp only [oneS, List.length_append, List.length_cons, List.length_nil]
    omega
theorem sortW_len {ws : List Wait} : (sortW ws).length = ws.length := List.length_mergeSort _
theorem askWait_len {S : Setting} {r : Row} {a : Ask} : (askWait S r a).length ≤ r.waiting.length + 1 := by
  unfold askWait
  split
  · omega
  · split
    · rw [sortW_len]; simp
    · omega
theorem rowD_mem {rs : List Row} {c g : Nat} : rowD rs c g ∈ rs ∨ rowD rs c g = ⟨c, g, 0, 0, [], []⟩ := by
  unfold rowD rowAt
  cases e : rs.find? fun r => decide (place r = (c, g)) with
  | none => exact .inr rfl
  | some r => exact .inl (List.mem_of_find?_eq_some e)
theorem Szs.waitD {st : State} (h : Szs st) (c g : Nat) : (rowD st.house.rows c g).waiting.length ≤ 100000 := by
  rcases rowD_mem (rs := st.house.rows) (c := c) (g := g) with e | e
  · exact h.wait _ e
  · rw [e]; exact Nat.zero_le _
theorem askS_tells {S : Setting} {st : State} (z : Szs st) (a : Ask) : (askS S st.house st.clock a).tells.length ≤ 100003 := by
  unfold askS
  have h1 := askWait_len (S := S) (r := askRow st.house a) (a := a)
  have h2 : (askRow st.house a).waiting.length ≤ 100000 := z.waitD a.k.c a.k.g
  refine Nat.le_trans (runS_tells _ _ _) ?_
  have h3 : (askTells (askRow st.house a) a.k).length ≤ 1 := by unfold askTells; split <;> simp
  simp only
  omega
section
variable {P : Program} {w : World} {K : PySem.W.Frag} {mg : Str → Option Value} {base : Heap}
theorem letter_at {st : State} {l k : Nat} (h : k < (lane st l).length) : ∃ x, (lane st l)[k]? = some x ∧ (letterAt st l k).getD noLetter = x := by
  refine ⟨(lane st l)[k], List.getElem?_eq_getElem h, ?_⟩
  unfold letterAt
  rw [List.getElem?_eq_getElem h]; rfl
theorem sc_without : FnScope ["state", "lane", "k", "lanes"] ["state", "lane", "k"] (defScope (top 55)) := ⟨rfl, rfl, rfl, by decide +kernel, rfl, by decide +kernel, by decide +kernel⟩
def R_without (ds : List PyData) (d : PyData) : Prop := ∃ (st : State) (l k : Nat), ds = [eState st, dI l, dI k] ∧ l < st.lanes.length ∧ (lane st l).length < 1000000 ∧ d = eState (withoutS st l k)
theorem c_without (T : Bl mg) (O : Own K mg "without" (defD "without" (top 55)) []) : Cal P w K mg base 1 "without" (PSp K R_without) [] := by
  refine cal_pure O sc_without ?_ (by decide) (fun _ _ _ _ _ _ us hl => match us, hl with | [_, _, _], _ => rfl) ?_
  · rintro ds d ⟨st, l, k, rfl, _⟩; rfl
  · rintro f cdv A outer s H E hr ds d ⟨st, l, k, rfl, hl, hz, rfl⟩
    have h1 := sz
    have nd := sc_without.nd
    refine sjs_set 3 (ev_lstOf T.list (ed_ic (ed_var 0) rfl)) ?_ nd
    refine sjs_put 3 (ed_cat (ed_toE (ed_xnL (er_var 3) (ed_var 1) (lanes_at hl)) (ed_var 2)) (ed_fromE (ed_xnL (er_var 3) (ed_var 1) (lanes_at hl)) (ed_addn (ed_var 2) ed_k)) ?_) (ed_var 1) rfl (by rw [List.length_map]; exact hl) ?_ (slot_name 3)
    · simp only [List.length_take, List.length_drop, List.length_map]; omega
    · refine sjs_ret (ed_is (ed_cat (ed_cat (ed_to (ed_var 0)) (ed_tup (ad_consd (ed_tupOf T.tuple (er_var 3)) ad_nild)) ?_) (ed_from (ed_var 0)) ?_) ?_) rfl
      · show 3 ≤ sizeLine; omega
      · show 4 ≤ sizeLine; omega
      · unfold withoutS eState
        simp only [List.map_set]
        simp [eLane, List.map_take, List.map_drop]
/-! ### the deeds -/
theorem sc_do_go : FnScope ["setting", "state", "step"] ["setting", "state", "step"] (defScope (top 56)) := ⟨rfl, rfl, rfl, by decide +kernel, rfl, by decide +kernel, by decide +kernel⟩
def isGo : Step → Prop | .go _ => True | _ => False
def isGet : Step → Prop | .get _ _ => True | _ => False
def isLose : Step → Prop | .lose _ _ => True | _ => False
def isDouble : Step → Prop | .double _ _ => True | _ => False
def isTick : Step → Prop | .tick => True | _ => False
def isTear : Step → Prop | .tear _ => True | _ => False
def isFall : Step → Prop | .fall => True | _ => False
theorem c_do_go (O : Own K mg "do_go" (defD "do_go" (top 56)) []) (c1 : Cal P w K mg base 8 "goes" (PSp K R_goes) []) : Cal P w K mg base 9 "do_go" (PSp K (R_do isGo)) [] := by
  refine cal_pure O sc_do_go ?_ (by decide) (fun _ _ _ _ _ _ us hl => match us, hl with | [_, _, _], _ => rfl) ?_
  · rintro ds d ⟨S, st, x, _, _, _, _, _, rfl, _⟩; rfl
  · rintro f cdv A outer s H E hr ds d ⟨S, st, x, wf, wt, z, can, p, rfl, rfl⟩
    cases x with
    | go c => exact sjs_ret (ed_call c1 hr (ad_consd (ed_var 0) (ad_consd (ed_var 1) (ad_consd (ed_ic (ed_var 2) rfl) ad_nild))) ⟨S, st, c, wf, rfl, wt, z.lanes, can, rfl⟩) rfl
    | _ => exact p.elim
theorem sc_do_lose : FnScope ["setting", "state", "step"] ["setting", "state", "step"] (defScope (top 58)) := ⟨rfl, rfl, rfl, by decide +kernel, rfl, by decide +kernel, by decide +kernel⟩
theorem c_do_lose (O : Own K mg "do_lose" (defD "do_lose" (top 58)) []) (c1 : Cal P w K mg base 1 "without" (PSp K R_without) []) : Cal P w K mg base 2 "do_lose" (PSp K (R_do isLose)) [] := by
  refine cal_pure O sc_do_lose ?_ (by decide) (fun _ _ _ _ _ _ us hl => match us, hl with | [_, _, _], _ => rfl) ?_
  · rintro ds d ⟨S, st, x, _, _, _, _, _, rfl, _⟩; rfl
  · rintro f cdv A outer s H E hr ds d ⟨S, st, x, wf, wt, z, can, p, rfl, rfl⟩
    cases x with
    | lose l k =>
      obtain ⟨y, h1, h2⟩ := letter_at can.2
      have hl : l < st.lanes.length := by rw [wt.nl]; exact can.1
      have hz := LenL.at_ z.lanes l
      refine sjs_ret (ed_tup (ad_consd (ed_call c1 hr (ad_consd (ed_var 1) (ad_consd (ed_ic (ed_var 2) rfl) (ad_consd (ed_ic (ed_var 2) rfl) ad_nild))) ⟨st, l, k, rfl, hl, by omega, rfl⟩) (ad_consd (ed_tup (ad_consd ed_str (ad_consd (ed_xm eLetter (ed_xn (ed_ic (ed_var 1) rfl) (ed_ic (ed_var 2) rfl) (lanes_at hl)) (ed_ic (ed_var 2) rfl) h1) ad_nild))) ad_nild))) ?_
      simp only [evS, stepS, h2]
    | _ => exact p.elim
theorem sc_do_double : FnScope ["setting", "state", "step", "letter"] ["setting", "state", "step"] (defScope (top 59)) := ⟨rfl, rfl, rfl, by decide +kernel, rfl, by decide +kernel, by decide +kernel⟩
theorem c_do_double (O : Own K mg "do_double" (defD "do_double" (top 59)) []) (c1 : Cal P w K mg base 1 "sent" (PSp K R_sent) []) : Cal P w K mg base 2 "do_double" (PSp K (R_do isDouble)) [] := by
  refine cal_pure O sc_do_double ?_ (by decide) (fun _ _ _ _ _ _ us hl => match us, hl with | [_, _, _], _ => rfl) ?_
  · rintro ds d ⟨S, st, x, _, _, _, _, _, rfl, _⟩; rfl
  · rintro f cdv A outer s H E hr ds d ⟨S, st, x, wf, wt, z, can, p, rfl, rfl⟩
    cases x with
    | double l k =>
      obtain ⟨y, h1, h2⟩ := letter_at can.2
      have hl : l < st.lanes.length := by rw [wt.nl]; exact can.1
      have hz := LenL.at_ z.lanes l
      refine sjs_set 3 (ed_xm eLetter (ed_xn (ed_ic (ed_var 1) rfl) (ed_ic (ed_var 2) rfl) (lanes_at hl)) (ed_ic (ed_var 2) rfl) h1) ?_ sc_do_double.nd
      refine sjs_ret (ed_tup (ad_consd (ed_call c1 hr (ad_consd (ed_var 1) (ad_consd (ed_ic (ed_var 2) rfl) (ad_consd (ed_var 3) ad_nild))) ⟨st, l, y, rfl, hl, by omega, rfl⟩) (ad_consd (ed_tup (ad_consd ed_str (ad_consd (ed_var 3) ad_nild))) ad_nild))) ?_
      simp only [evS, stepS, h2]
    | _ => exact p.elim
theorem sc_do_tick : FnScope ["setting", "state", "step"] ["setting", "state", "step"] (defScope (top 60)) := ⟨rfl, rfl, rfl, by decide +kernel, rfl, by decide +kernel, by decide +kernel⟩
theorem c_do_tick (O : Own K mg "do_tick" (defD "do_tick" (top 60)) []) : Cal P w K mg base 1 "do_tick" (PSp K (R_do isTick)) [] := by
  refine cal_pure O sc_do_tick ?_ (by decide) (fun _ _ _ _ _ _ us hl => match us, hl with | [_, _, _], _ => rfl) ?_
  · rintro ds d ⟨S, st, x, _, _, _, _, _, rfl, _⟩; rfl
  · rintro f cdv A outer s H E hr ds d ⟨S, st, x, wf, wt, z, can, p, rfl, rfl⟩
    cases x with
    | tick => exact sjs_ret (ed_tup (ad_consd (ed_cat (ed_tup (ad_consd (ed_addn (ed_ic (ed_var 1) rfl) ed_k) ad_nild)) (ed_from (ed_var 1)) (by show 4 ≤ sizeLine; decide)) (ad_consd (ed_tup (ad_consd ed_str (ad_consd (ed_addn (ed_ic (ed_var 1) rfl) ed_k) ad_nild))) ad_nild))) rfl
    | _ => exact p.elim
theorem sc_do_tear : FnScope ["setting", "state", "step", "lanes", "many"] ["setting", "state", "step"] (defScope (top 61)) := ⟨rfl, rfl, rfl, by decide +kernel, rfl, by decide +kernel, by decide +kernel⟩
theorem c_do_tear (T : Bl mg) (O : Own K mg "do_tear" (defD "do_tear" (top 61)) []) : Cal P w K mg base 1 "do_tear" (PSp K (R_do isTear)) [] := by
  refine cal_pure O sc_do_tear ?_ (by decide) (fun _ _ _ _ _ _ us hl => match us, hl with | [_, _, _], _ => rfl) ?_
  · rintro ds d ⟨S, st, x, _, _, _, _, _, rfl, _⟩; rfl
  · rintro f cdv A outer s H E hr ds d ⟨S, st, x, wf, wt, z, can, p, rfl, rfl⟩
    cases x with
    | tear l =>
      have nd := sc_do_tear.nd
      have hl : l < st.lanes.length := by rw [wt.nl]; exact can
      refine sjs_set 3 (ev_lstOf T.list (ed_ic (ed_var 1) rfl)) ?_ nd
      refine sjs_set 4 (ed_lenM eLetter T.len (ed_xnL (er_var 3) (ed_ic (ed_var 2) rfl) (lanes_at hl))) ?_ nd
      refine sjs_put 3 (ed_tup ad_nild) (ed_ic (ed_var 2) rfl) rfl (by rw [List.length_map]; exact hl) ?_ (slot_name 3)
      refine sjs_ret (ed_is (ed_tup (ad_consd (ed_cat (ed_cat (ed_to (ed_var 1)) (ed_tup (ad_consd (ed_tupOf T.tuple (er_var 3)) ad_nild)) (by show 3 ≤ sizeLine; decide)) (ed_from (ed_var 1)) (by show 4 ≤ sizeLine; decide)) (ad_consd (ed_tup (ad_consd ed_str (ad_consd (ed_var 4) ad_nild))) ad_nild))) ?_) rfl
      unfold stepS evS eState
      simp only [List.map_set]
      simp [eLane]
    | _ => exact p.elim
/-! ### fallen, do_fall -/
theorem sc_fallen : FnScope ["setting", "house", "row"] ["setting", "house"] (defScope (top 53)) := ⟨rfl, rfl, rfl, by decide +kernel, rfl, by decide +kernel, by decide +kernel⟩
def R_fallen (ds : List PyData) (d : PyData) : Prop := ∃ (S : Setting) (h : House), ds = [eSetting S, eHouse h] ∧ h.rows.length ≤ 100000 ∧ d = eHouse (fallenS h)
def fallRow : PyData → PyData
  | .tuple ds => .tuple (ds.take 4 ++ [.tuple []])
  | d => d
theorem c_fallen (T : Bl mg) (O : Own K mg "fallen" (defD "fallen" (top 53)) []) : Cal P w K mg base 1 "fallen" (PSp K R_fallen) [] := by
  refine cal_pure O sc_fallen ?_ (by decide) (fun _ _ _ _ _ _ us hl => match us, hl with | [_, _], _ => rfl) ?_
  · rintro ds d ⟨S, h, rfl, _⟩; rfl
  · rintro f cdv A outer s H E hr ds d ⟨S, h, rfl, hz, rfl⟩
    have h1 := sz
    have nd := sc_fallen.nd
    refine sjs_ret (ed_is (ed_tup (ad_consd (ed_ic (ed_var 1) rfl) (ad_consd (ed_ic (ed_var 1) rfl) (ad_consd (ed_tupOf T.tuple (er_new (ev_lc (own := [("row", 2)]) fallRow (it_tup (ed_ic (ed_var 1) rfl)).ic rfl nd (blkOk_by (N := ["setting", "house", "row"]) (sc := defScope (top 53)) (by decide +kernel)) (by rw [List.length_map]; omega) (fun d hd => ?_)))) ad_nild)))) ?_) rfl
    · obtain ⟨r, _, rfl⟩ := List.mem_map.mp hd
      exact ⟨[(2, eRow r)], fun _ _ _ _ _ => gd_name 2 nd, own_by, fun _ _ _ _ _ => ed_cat (ed_to (ed_var 2)) (ed_tup (ad_consd (ed_tup ad_nild) ad_nild)) (by show 5 ≤ sizeLine; omega)⟩
    · unfold fallenS eHouse
      simp only [List.map_map]
      rfl
theorem sc_do_fall : FnScope ["setting", "state", "step", "many", "row"] ["setting", "state", "step"] (defScope (top 62)) := ⟨rfl, rfl, rfl, by decide +kernel, rfl, by decide +kernel, by decide +kernel⟩
def waitN : PyData → PyData
  | .tuple [_, _, _, _, .tuple ws] => .int (ws.length : Int)
  | d => d
theorem c_do_fall (T : Bl mg) (O : Own K mg "do_fall" (defD "do_fall" (top 62)) []) (c1 : Cal P w K mg base 1 "fallen" (PSp K R_fallen) []) : Cal P w K mg base 2 "do_fall" (PSp K (R_do isFall)) [] := by
  refine cal_pure O sc_do_fall ?_ (by decide) (fun _ _ _ _ _ _ us hl => match us, hl with | [_, _, _], _ => rfl) ?_
  · rintro ds d ⟨S, st, x, _, _, _, _, _, rfl, _⟩; rfl
  · rintro f cdv A outer s H E hr ds d ⟨S, st, x, wf, wt, z, can, p, rfl, rfl⟩
    cases x with
    | fall =>
      have h1 := sz
      have nd := sc_do_fall.nd
      refine sjs_set 3 (ed_sum (ns := st.house.rows.map fun r => (r.waiting.length : Int)) T.sum rfl (er_new (ev_lcE (own := [("row", 4)]) waitN (it_tup (ed_ic (ed_ic (ed_var 1) rfl) rfl)).ic rfl nd (blkOk_by (N := ["setting", "state", "step", "many", "row"]) (sc := defScope (top 62)) (by decide +kernel)) (by have := z.rows; rw [List.length_map]; omega) (by simp [List.map_map, waitN, eRow, Function.comp_def]) (fun d hd => ?_)))) ?_ nd
      · obtain ⟨r, _, rfl⟩ := List.mem_map.mp hd
        exact ⟨[(4, eRow r)], fun _ _ _ _ _ => gd_name 4 nd, own_by, fun _ _ _ _ _ => ed_lenT T.len (ed_ic (ed_var 4) rfl)⟩
      · have e : ((st.house.rows.map fun r => (r.waiting.length : Int)).sum : Int) = ((st.house.rows.map fun r => r.waiting.length).sum : Nat) := by
          induction st.house.rows with
          | nil => rfl
          | cons r rs ih => simp only [List.map_cons, List.sum_cons, ih]; omega
        rw [e]
        exact sjs_ret (ed_tup (ad_consd (ed_cat (ed_to (ed_var 1)) (ed_tup (ad_consd (ed_call c1 hr (ad_consd (ed_var 0) (ad_consd (ed_ic (ed_var 1) rfl) ad_nild)) ⟨S, st.house, rfl, z.rows, rfl⟩) ad_nild)) (by show 4 ≤ sizeLine; omega)) (ad_consd (ed_tup (ad_consd ed_str (ad_consd (ed_var 3) ad_nild))) ad_nild))) rfl
    | _ => exact p.elim
end
end TC
set_option Elab.async false
set_option linter.all false
set_option maxRecDepth 100000
set_option maxHeartbeats 4000000
/-! Defs, part 9: a letter is got; what can be; a step. -/
namespace TC
open PySem L2
section
variable {X : Cx} {ρ : List Sl} {a b : Expr} {pos : Pos}
theorem ed_niG {d : PyData} {ds : List PyData} {n m : Nat} {k : Bool} (hu : X.A.units + 65 < cLine) (ha : ED X ρ a d) (hb : ED X ρ b (.tuple ds)) (h1 : Lay n d) (h2 : Lay m (.tuple ds)) (h : (ds.any fun z => PyData.eqv z d) = !k) (hn : n ≤ 64 := by decide) (hm' : m ≤ 64 := by decide) (hm : behindInMarks .NotIn b = false := by with_unfolding_all rfl) : ED X ρ (.Compare a [.NotIn] [b] pos) (.bool k) :=
  ed_cmp (op_niT hu) ha hb (fun v w H Q q1 q2 q => ⟨d, ds, q1.dp, q2.dp, h1.shaped hn, h2.shaped hm', by rw [h, Bool.not_not]; exact q⟩) hm
end
theorem wf_at {S : Setting} {st : State} (wf : WfS S) (wt : Wf S st) {k : Key} {y : Call} (h : callAt st k = some y) : ∃ clr G, st.callers[k.c]? = some clr ∧ clr.groups[k.g]? = some G ∧ G.calls[k.n]? = some y ∧ st.callers.length ≤ 3 ∧ clr.groups.length ≤ 2 ∧ G.calls.length ≤ 4 ∧ k.n < lenS S k.c k.g := by
  unfold callAt at h
  cases e : grp st k.c k.g with
  | none => rw [e] at h; cases h
  | some G =>
    rw [e] at h
    obtain ⟨clr, h1, h2⟩ := grp_at e
    obtain ⟨cs, h3, h4⟩ := wt.shp.clrS h1
    obtain ⟨l, h5⟩ := wt.shp.grpS_ e
    have g := (wt.grp _ _ _ e).len
    have h6 : lenS S k.c k.g = l.length := by unfold lenS; rw [h5]; rfl
    have h7 := wf.grp h5
    have h8 := wf.ng cs (List.mem_of_getElem? h3)
    have h9 := (List.getElem?_eq_some_iff.mp (show G.calls[k.n]? = some y from h)).1
    exact ⟨clr, G, h1, h2, h, by rw [wt.shp.nc]; exact wf.nc, by omega, by omega, by omega⟩
theorem lane_mem {st : State} {l k : Nat} {x : Letter} (hl : l < st.lanes.length) (h : (lane st l)[k]? = some x) : ∃ L ∈ st.lanes, x ∈ L := ⟨_, List.mem_of_getElem? (lane_at hl), List.mem_of_getElem? h⟩
section
variable {P : Program} {w : World} {K : PySem.W.Frag} {mg : Str → Option Value} {base : Heap}
theorem sc_do_get : FnScope ["setting", "state", "step", "word", "lane", "k", "letter", "later", "house", "tells", "keys", "tell"] ["setting", "state", "step"] (defScope (top 57)) := ⟨rfl, rfl, rfl, by decide +kernel, rfl, by decide +kernel, by decide +kernel⟩
theorem tellAll_snoc (st : State) (l : Nat) (ts : List (Key × Ans)) (t : Key × Ans) : tellAll st l (ts ++ [t]) = sentS (tellAll st l ts) l (.tell t.1 t.2) := by
  unfold tellAll
  rw [List.foldl_append]
  rfl
theorem sentS_lane {st : State} {l : Nat} {x : Letter} (h : l < st.lanes.length) : lane (sentS st l x) l = lane st l ++ [x] := by
  unfold lane sentS
  rw [List.getElem?_set_self h]
  rfl
theorem tellAll_lanes (l : Nat) : ∀ (ts : List (Key × Ans)) (st : State), (tellAll st l ts).lanes.length = st.lanes.length
  | [], st => rfl
  | t :: ts, st => by
    show (tellAll (sentS st l (.tell t.1 t.2)) l ts).lanes.length = _
    rw [tellAll_lanes l ts]
    exact List.length_set
theorem tellAll_lane (l : Nat) : ∀ (ts : List (Key × Ans)) (st : State), l < st.lanes.length → lane (tellAll st l ts) l = lane st l ++ ts.map fun t => Letter.tell t.1 t.2
  | [], st, h => by simp [tellAll]
  | t :: ts, st, h => by
    have e := tellAll_lane l ts (sentS st l (.tell t.1 t.2)) (by show l < (st.lanes.set l _).length; rw [List.length_set]; exact h)
    show lane (tellAll (sentS st l (.tell t.1 t.2)) l ts) l = _
    rw [e, sentS_lane h]
    simp
theorem withoutS_lane {st : State} {l k : Nat} (h : l < st.lanes.length) : lane (withoutS st l k) l = (lane st l).take k ++ (lane st l).drop (k + 1) := by
  unfold withoutS
  show (st.lanes.set l _)[l]?.getD [] = _
  rw [List.getElem?_set_self h]
  rfl
theorem c_do_get (O : Own K mg "do_get" (defD "do_get" (top 57)) []) (c1 : Cal P w K mg base 1 "without" (PSp K R_without) []) (c2 : Cal P w K mg base 3 "heard_tell" (PSp K R_heard_tell) []) (c3 : Cal P w K mg base 1 "is_new" (PSp K R_is_new) []) (c4 : Cal P w K mg base 4 "asked" (PSp K R_asked) []) (c5 : Cal P w K mg base 1 "sent" (PSp K R_sent) []) :
    Cal P w K mg base 5 "do_get" (PSp K (R_do isGet)) [] := by
  refine cal_pure O sc_do_get ?_ (by decide) (fun _ _ _ _ _ _ us hl => match us, hl with | [_, _, _], _ => rfl) ?_
  · rintro ds d ⟨S, st, x, _, _, _, _, _, rfl, _⟩; rfl
  · rintro f cdv A outer s H E hr ds d ⟨S, st, x, wf, wt, z, can, p, rfl, rfl⟩
    cases x with
    | get l k =>
      have h1 := sz
      have nd := sc_do_get.nd
      obtain ⟨x, hx, hx2⟩ := letter_at can.2
      have hl : l < st.lanes.length := by rw [wt.nl]; exact can.1
      have hz := LenL.at_ z.lanes l
      obtain ⟨L, hL, hxL⟩ := lane_mem hl hx
      have ok := wt.lets L hL x hxL
      refine sjs_asg (ed_var 2) (gd_tup rfl (gds_cons (gd_name 3 nd) (gds_cons (gd_name 4 nd) (gds_cons (gd_name 5 nd) gds_nil))) rfl) ?_
      refine sjs_par 6 7 (u := .d (eLetter x)) (v := .d (eState (withoutS st l k))) (ed_xm eLetter (ed_xn (ed_ic (ed_var 1) rfl) (ed_var 4) (lanes_at hl)) (ed_var 5) hx) (ed_call c1 hr (ad_consd (ed_var 1) (ad_consd (ed_var 4) (ad_consd (ed_var 5) ad_nild))) ⟨st, l, k, rfl, hl, by omega, rfl⟩) ?_ rfl nd
      refine SJs.to [.d (eSetting S), .d (eState st), .d (eStep (.get l k)), .d (.str "get"), .d (dI l), .d (dI k), .d (eLetter x), .d (eState (withoutS st l k)), .no, .no, .no, .no] ?_
      cases x with
      | tell key a =>
        obtain ⟨⟨y, hy⟩, hn⟩ := ok
        obtain ⟨clr, G, g1, g2, g3, g4, g5, g6, _⟩ := wf_at wf wt hy
        refine sjs_takeR (td_is (td_eqS (ed_ic (ed_var 6) rfl) ed_str) (m := true) (by decide +kernel)) (sjs_ret (ed_tup (ad_consd (ed_call c2 hr (ad_consd (ed_var 0) (ad_consd (ed_var 7) (ad_consd (ed_var 6) ad_nild))) ⟨S, withoutS st l k, key, a, clr, G, rfl, g1, g2, (show st.callers.length ≤ 1000 by omega), by omega, by omega, rfl⟩) (ad_consd (ed_tup (ad_consd ed_str (ad_consd (ed_ic (ed_var 6) rfl) (ad_consd (ed_call c3 hr (ad_consd (ed_var 1) (ad_consd (ed_ic (ed_var 6) rfl) ad_nild)) ⟨st, key, G, rfl, grp_mk g1 g2, rfl⟩) ad_nild)))) ad_nild))) ?_)
        simp only [stepS, evS, getS, evGet, hx2]
      | ask key cell number last heard =>
        let a : Ask := ⟨key, cell, number, last, heard⟩
        let r := askS S st.house st.clock a
        have hrt : r.tells.length ≤ 100003 := askS_tells z a
        refine sjs_skip (td_is (td_eqS (ed_ic (ed_var 6) rfl) ed_str) (m := false) (by decide +kernel)) ?_
        refine sjs_asg (ed_call c4 hr (ad_consd (ed_var 0) (ad_consd (ed_ic (ed_var 1) rfl) (ad_consd (ed_ic (ed_var 1) rfl) (ad_consd (ed_var 6) ad_nild)))) ⟨S, st, a, wf, wt, z, ok, rfl, rfl⟩) (gd_tup rfl (gds_cons (gd_name 8 nd) (gds_cons (gd_name 9 nd) (gds_cons (gd_name 10 nd) gds_nil))) rfl) ?_
        refine sjs_set 7 (y := .d (eState { withoutS st l k with house := closedS st.house r })) (ed_is (ed_cat (ed_to (ed_var 7)) (ed_tup (ad_consd (ed_var 8) ad_nild)) (by show 4 ≤ sizeLine; omega)) rfl) ?_ nd
        let st1 : State := { withoutS st l k with house := closedS st.house r }
        have hl1 : l < st1.lanes.length := by show l < (st.lanes.set l _).length; rw [List.length_set]; exact hl
        have hz1 : (lane st1 l).length ≤ 100000 := by
          have e : lane st1 l = (lane st l).take k ++ (lane st l).drop (k + 1) := withoutS_lane hl
          rw [e, List.length_append, List.length_take, List.length_drop]
          omega
        refine SJs.to [.d (eSetting S), .d (eState st), .d (eStep (.get l k)), .d (.str "get"), .d (dI l), .d (dI k), .d (eLetter (.ask key cell number last heard)), .d (eState st1), .d (eHouse (closedS st.house r)), .d (.tuple (r.tells.map eTell)), .d (.tuple (r.keys.map eKey)), .no] ?_
        refine sjs_cons (sj_for (it_tup (ed_var 9)) (fun i ρ => ∃ y, ρ = [.d (eSetting S), .d (eState st), .d (eStep (.get l k)), .d (.str "get"), .d (dI l), .d (dI k), .d (eLetter (.ask key cell number last heard)), .d (eState (tellAll st1 l (r.tells.take i))), .d (eHouse (closedS st.house r)), .d (.tuple (r.tells.map eTell)), .d (.tuple (r.keys.map eKey)), y])
          (N := fun ρ => ∃ y, ρ = [.d (eSetting S), .d (eState st), .d (eStep (.get l k)), .d (.str "get"), .d (dI l), .d (dI k), .d (eLetter (.ask key cell number last heard)), .d (eState (tellAll st1 l r.tells)), .d (eHouse (closedS st.house r)), .d (.tuple (r.tells.map eTell)), .d (.tuple (r.keys.map eKey)), y]) ⟨_, rfl⟩ ?_ ?_ rfl PassesOwn.never) ?_
        · rintro i d ρ hd ⟨y, rfl⟩
          obtain ⟨t, ht, rfl⟩ := map_at hd
          refine ⟨[(11, eTell t)], gd_name 11 nd, ?_⟩
          refine sjs_set 7 (y := .d (eState (tellAll st1 l (r.tells.take (i + 1))))) (ed_is (ed_call c5 hr (ad_consd (ed_var 7) (ad_consd (ed_var 4) (ad_consd (ed_var 11) ad_nild))) ⟨tellAll st1 l (r.tells.take i), l, .tell t.1 t.2, rfl, by rw [tellAll_lanes]; exact hl1, ?_, rfl⟩) ?_) (sjs_nil ⟨_, rfl⟩) nd
          · rw [tellAll_lane l _ _ hl1, List.length_append, List.length_map, List.length_take]
            omega
          · rw [take_snoc ht, tellAll_snoc]
        · rintro ρ ⟨y, rfl⟩
          exact ⟨y, by rw [List.length_map, List.take_length]⟩
        · rintro ρ ⟨y, rfl⟩
          refine sjs_ret (ed_tup (ad_consd (ed_var 7) (ad_consd (ed_tup (ad_consd ed_str (ad_consd (ed_ic (ed_var 6) rfl) (ad_consd (ed_var 10) ad_nild)))) ad_nild))) ?_
          simp only [stepS, evS, getS, evGet, hx2]
          rfl
    | _ => exact p.elim
/-! ### can_be, stepped -/
theorem sc_can_be : FnScope ["setting", "state", "step"] ["setting", "state", "step"] (defScope (top 64)) := ⟨rfl, rfl, rfl, by decide +kernel, rfl, by decide +kernel, by decide +kernel⟩
def R_can_be (ds : List PyData) (d : PyData) : Prop := ∃ (S : Setting) (st : State) (x : Step), Wf S st ∧ Can S st x ∧ ds = [eSetting S, eState st, eStep x] ∧ d = .bool true
theorem Can.ok {S : Setting} {st : State} {x : Step} (h : Can S st x) : x.ok := by
  cases x with
  | get l k => exact h.1
  | lose l k => exact h.1
  | double l k => exact h.1
  | tear l => exact h
  | _ => trivial
theorem c_can_be (T : Bl mg) (O : Own K mg "can_be" (defD "can_be" (top 64)) []) (c1 : Cal P w K mg base 4 "is_step" (PSp K R_is_step) []) : Cal P w K mg base 5 "can_be" (PSp K R_can_be) [] := by
  refine cal_pure O sc_can_be ?_ (by decide) (fun _ _ _ _ _ _ us hl => match us, hl with | [_, _, _], _ => rfl) ?_
  · rintro ds d ⟨S, st, x, _, _, rfl, _⟩; rfl
  · rintro f cdv A outer s H E hr ds d ⟨S, st, x, wt, can, rfl, rfl⟩
    refine sjs_skip (td_not (k := true) (td_val (ed_call c1 hr (ad_consd (ed_var 2) ad_nild) ⟨x, rfl, can.ok, rfl⟩))) ?_
    have lay3 : Lay 1 (.tuple [.str "get", .str "lose", .str "double"]) := lay_tup (lay_cons (lay_str (by decide +kernel)) (lay_cons (lay_str (by decide +kernel)) (lay_cons (lay_str (by decide +kernel)) lay_nil)))
    have no : ∀ {z : Str}, (([.str "get", .str "lose", .str "double"] : List PyData).any fun y => PyData.eqv y (.str z)) = true ∨ (([.str "get", .str "lose", .str "double"] : List PyData).any fun y => PyData.eqv y (.str z)) = false := fun {z} => by
      cases (([.str "get", .str "lose", .str "double"] : List PyData).any fun y => PyData.eqv y (.str z)) with
      | true => exact .inl rfl
      | false => exact .inr rfl
    cases x with
    | go c => exact sjs_takeR (td_is (td_eqS (ed_ic (ed_var 2) rfl) ed_str) (m := true) (by decide +kernel)) (sjs_ret (ed_is (ed_ltn (ed_ic (ed_var 2) rfl) (ed_lenM eClrS T.len (ed_ic (ed_var 0) rfl))) (by rw [decide_eq_true (show c < S.callers.length from can)])) rfl)
    | tick => exact sjs_skip (td_is (td_eqS (ed_ic (ed_var 2) rfl) ed_str) (m := false) (by decide +kernel)) (sjs_ret (ed_orB (k := true) (m := true) (ed_niG (k := true) (roomU hr) (ed_ic (ed_var 2) rfl) (ed_tup (ad_consd ed_str (ad_consd ed_str (ad_consd ed_str ad_nild)))) (lay_str (by decide +kernel)) lay3 (by decide +kernel)) fun z => by cases z) rfl)
    | fall => exact sjs_skip (td_is (td_eqS (ed_ic (ed_var 2) rfl) ed_str) (m := false) (by decide +kernel)) (sjs_ret (ed_orB (k := true) (m := true) (ed_niG (k := true) (roomU hr) (ed_ic (ed_var 2) rfl) (ed_tup (ad_consd ed_str (ad_consd ed_str (ad_consd ed_str ad_nild)))) (lay_str (by decide +kernel)) lay3 (by decide +kernel)) fun z => by cases z) rfl)
    | tear l => exact sjs_skip (td_is (td_eqS (ed_ic (ed_var 2) rfl) ed_str) (m := false) (by decide +kernel)) (sjs_ret (ed_orB (k := true) (m := true) (ed_niG (k := true) (roomU hr) (ed_ic (ed_var 2) rfl) (ed_tup (ad_consd ed_str (ad_consd ed_str (ad_consd ed_str ad_nild)))) (lay_str (by decide +kernel)) lay3 (by decide +kernel)) fun z => by cases z) rfl)
    | get l k => exact sjs_skip (td_is (td_eqS (ed_ic (ed_var 2) rfl) ed_str) (m := false) (by decide +kernel)) (sjs_ret (ed_orB (k := false) (m := true) (ed_niG (k := false) (roomU hr) (ed_ic (ed_var 2) rfl) (ed_tup (ad_consd ed_str (ad_consd ed_str (ad_consd ed_str ad_nild)))) (lay_str (by decide +kernel)) lay3 (by decide +kernel)) fun _ => ed_one (ed_is (ed_ltn (ed_ic (ed_var 2) rfl) (ed_lenM eLetter T.len (ed_xn (ed_ic (ed_var 1) rfl) (ed_ic (ed_var 2) rfl) (lanes_at (by rw [wt.nl]; exact can.1))))) (by rw [decide_eq_true can.2]))) rfl)
    | lose l k => exact sjs_skip (td_is (td_eqS (ed_ic (ed_var 2) rfl) ed_str) (m := false) (by decide +kernel)) (sjs_ret (ed_orB (k := false) (m := true) (ed_niG (k := false) (roomU hr) (ed_ic (ed_var 2) rfl) (ed_tup (ad_consd ed_str (ad_consd ed_str (ad_consd ed_str ad_nild)))) (lay_str (by decide +kernel)) lay3 (by decide +kernel)) fun _ => ed_one (ed_is (ed_ltn (ed_ic (ed_var 2) rfl) (ed_lenM eLetter T.len (ed_xn (ed_ic (ed_var 1) rfl) (ed_ic (ed_var 2) rfl) (lanes_at (by rw [wt.nl]; exact can.1))))) (by rw [decide_eq_true can.2]))) rfl)
    | double l k => exact sjs_skip (td_is (td_eqS (ed_ic (ed_var 2) rfl) ed_str) (m := false) (by decide +kernel)) (sjs_ret (ed_orB (k := false) (m := true) (ed_niG (k := false) (roomU hr) (ed_ic (ed_var 2) rfl) (ed_tup (ad_consd ed_str (ad_consd ed_str (ad_consd ed_str ad_nild)))) (lay_str (by decide +kernel)) lay3 (by decide +kernel)) fun _ => ed_one (ed_is (ed_ltn (ed_ic (ed_var 2) rfl) (ed_lenM eLetter T.len (ed_xn (ed_ic (ed_var 1) rfl) (ed_ic (ed_var 2) rfl) (lanes_at (by rw [wt.nl]; exact can.1))))) (by rw [decide_eq_true can.2]))) rfl)
theorem sc_stepped : FnScope ["setting", "state", "step", "deed"] ["setting", "state", "step"] (defScope (top 65)) := ⟨rfl, rfl, rfl, by decide +kernel, rfl, by decide +kernel, by decide +kernel⟩
def R_stepped (ds : List PyData) (d : PyData) : Prop := R_do (fun _ => True) ds d
def kvDoes : List (Str × Str) := [("go", "do_go"), ("get", "do_get"), ("lose", "do_lose"), ("double", "do_double"), ("tick", "do_tick"), ("tear", "do_tear"), ("fall", "do_fall")]
theorem c_stepped (TS : Tbl K w mg "DOES" kvDoes) (O : Own K mg "stepped" (defD "stepped" (top 65)) []) (c0 : Cal P w K mg base 5 "can_be" (PSp K R_can_be) []) (c1 : Cal P w K mg base 9 "do_go" (PSp K (R_do isGo)) []) (c2 : Cal P w K mg base 5 "do_get" (PSp K (R_do isGet)) []) (c3 : Cal P w K mg base 2 "do_lose" (PSp K (R_do isLose)) [])
    (c4 : Cal P w K mg base 2 "do_double" (PSp K (R_do isDouble)) []) (c5 : Cal P w K mg base 1 "do_tick" (PSp K (R_do isTick)) []) (c6 : Cal P w K mg base 1 "do_tear" (PSp K (R_do isTear)) []) (c7 : Cal P w K mg base 2 "do_fall" (PSp K (R_do isFall)) []) : Cal P w K mg base 10 "stepped" (PSp K R_stepped) [] := by
  refine cal_pure O sc_stepped ?_ (by decide) (fun _ _ _ _ _ _ us hl => match us, hl with | [_, _, _], _ => rfl) ?_
  · rintro ds d ⟨S, st, x, _, _, _, _, _, rfl, _⟩; rfl
  · rintro f cdv A outer s H E hr ds d ⟨S, st, x, wf, wt, z, can, _, rfl, rfl⟩
    have nd := sc_stepped.nd
    refine sjs_skip (td_not (k := true) (td_val (ed_call c0 hr (ad_consd (ed_var 0) (ad_consd (ed_var 1) (ad_consd (ed_var 2) ad_nild))) ⟨S, st, x, wt, can, rfl, rfl⟩))) ?_
    have go : ∀ {y : Str} {k : Nat} {R : List PyData → PyData → Prop}, (x.word, y) ∈ kvDoes → Cal P w K mg base k y (PSp K R) [] → k ≤ 9 → R [eSetting S, eState st, eStep x] (.tuple [eState (stepS S st x), evS S st x]) →
        SJs (BX P w K mg base ["setting", "state", "step", "deed"] "stepped" (defScope (top 65)) f cdv A outer s H E) [.d (eSetting S), .d (eState st), .d (eStep x), .no] ((defBody (top 65)).drop 1) (fun _ => PyData.tuple [eState (stepS S st x), evS S st x] = .none) (fun d' _ => d' = .d (.tuple [eState (stepS S st x), evS S st x])) := by
      rintro y k R hm cl hk hR
      obtain ⟨fa, m⟩ := TS.f hm
      refine sjs_set 3 (ev_tab TS hm m (ed_ic (d := .str x.word) (ed_is (ed_var 2) (eStep_eq x)) rfl)) ?_ nd
      exact sjs_ret (ed_callLoc 3 cl m hr (ad_consd (ed_var 0) (ad_consd (ed_var 1) (ad_consd (ed_var 2) ad_nild))) (by exact hR) rfl hk) rfl
    cases x with
    | go c => exact go (y := "do_go") (by simp [kvDoes, Step.word]) c1 (by decide) ⟨S, st, _, wf, wt, z, can, trivial, rfl, rfl⟩
    | get l k => exact go (y := "do_get") (by simp [kvDoes, Step.word]) c2 (by decide) ⟨S, st, _, wf, wt, z, can, trivial, rfl, rfl⟩
    | lose l k => exact go (y := "do_lose") (by simp [kvDoes, Step.word]) c3 (by decide) ⟨S, st, _, wf, wt, z, can, trivial, rfl, rfl⟩
    | double l k => exact go (y := "do_double") (by simp [kvDoes, Step.word]) c4 (by decide) ⟨S, st, _, wf, wt, z, can, trivial, rfl, rfl⟩
    | tick => exact go (y := "do_tick") (by simp [kvDoes, Step.word]) c5 (by decide) ⟨S, st, _, wf, wt, z, can, trivial, rfl, rfl⟩
    | tear l => exact go (y := "do_tear") (by simp [kvDoes, Step.word]) c6 (by decide) ⟨S, st, _, wf, wt, z, can, trivial, rfl, rfl⟩
    | fall => exact go (y := "do_fall") (by simp [kvDoes, Step.word]) c7 (by decide) ⟨S, st, _, wf, wt, z, can, trivial, rfl, rfl⟩
end
end TC
set_option linter.all false
/-! The mirror, part 4: runs, rounds, fair runs (as relations). -/
namespace TC
open PySem
/-- a run whose every step can be, from states that are well and not large -/
def Good (S : Setting) : List Step → State → Prop
  | [], _ => True
  | x :: r, st => (Wf S st ∧ Szs st ∧ Can S st x) ∧ Good S r (stepS S st x)
theorem Good.at_ {S : Setting} : ∀ {xs : List Step} {st : State} {i : Nat} {x : Step}, Good S xs st → xs[i]? = some x → Wf S (runAll S (xs.take i) st) ∧ Szs (runAll S (xs.take i) st) ∧ Can S (runAll S (xs.take i) st) x
  | [], st, i, x, _, e => by simp at e
  | y :: r, st, 0, x, h, e => by simp at e; subst e; exact h.1
  | y :: r, st, i + 1, x, h, e => Good.at_ (xs := r) (st := stepS S st y) (i := i) h.2 (by simpa using e)
theorem runAll_snoc {S : Setting} {x : Step} : ∀ {xs : List Step} {st : State}, runAll S (xs ++ [x]) st = stepS S (runAll S xs st) x
  | [], st => rfl
  | y :: r, st => runAll_snoc (xs := r)
theorem evAll_snoc {S : Setting} {x : Step} : ∀ {xs : List Step} {st : State}, evAll S (xs ++ [x]) st = evAll S xs st ++ [evS S (runAll S xs st) x]
  | [], st => rfl
  | y :: r, st => congrArg (List.cons _) (evAll_snoc (xs := r))
theorem runAll_app {S : Setting} : ∀ {xs ys : List Step} {st : State}, runAll S (xs ++ ys) st = runAll S ys (runAll S xs st)
  | [], ys, st => rfl
  | y :: r, ys, st => runAll_app (xs := r)
theorem evAll_app {S : Setting} : ∀ {xs ys : List Step} {st : State}, evAll S (xs ++ ys) st = evAll S xs st ++ evAll S ys (runAll S xs st)
  | [], ys, st => rfl
  | y :: r, ys, st => congrArg (List.cons _) (evAll_app (xs := r))
theorem evAll_len {S : Setting} : ∀ {xs : List Step} {st : State}, (evAll S xs st).length = xs.length
  | [], st => rfl
  | y :: r, st => congrArg Nat.succ (evAll_len (xs := r))
theorem Good.app {S : Setting} : ∀ {xs ys : List Step} {st : State}, Good S xs st → Good S ys (runAll S xs st) → Good S (xs ++ ys) st
  | [], ys, st, _, h => h
  | y :: r, ys, st, h, g => ⟨h.1, Good.app (xs := r) h.2 g⟩
/-- the lanes hold nothing -/
def Mt (st : State) : Prop := lane st 0 = [] ∧ lane st 1 = []
def emptyL (l : List Letter) : Bool := l.isEmpty
def mt (st : State) : Bool := (lane st 0).isEmpty && (lane st 1).isEmpty
theorem mt_iff {st : State} : mt st = true ↔ Mt st := by
  unfold mt Mt
  rw [Bool.and_eq_true_iff, List.isEmpty_iff, List.isEmpty_iff]
def nextGet (st : State) : Step := .get (if (lane st 0).isEmpty then 1 else 0) 0
/-- all letters are got -/
inductive Dr (S : Setting) : State → List Step → State → Prop
  | done {st : State} : Wf S st → mt st = true → Dr S st [] st
  | step {st st' : State} {xs : List Step} : Wf S st → Szs st → mt st = false → Dr S (stepS S st (nextGet st)) xs st' → Dr S st (nextGet st :: xs) st'
def Due.is1 : Due → Bool
  | .first _ _ => true
  | _ => false
def noDue (S : Setting) (st : State) (c : Nat) : Bool := match dueS S st c with
  | .nothing => true
  | _ => false
/-- caller c goes as long as anything is due -/
inductive Gc (S : Setting) (c : Nat) : State → List Step → State → Prop
  | done {st : State} : Wf S st → noDue S st c = true → Gc S c st [] st
  | step {st st' : State} {xs : List Step} : Wf S st → Szs st → noDue S st c = false → Gc S c (stepS S st (.go c)) xs st' → Gc S c st (.go c :: xs) st'
/-- callers c, c + 1, .. below n go -/
inductive Gs (S : Setting) : Nat → State → List Step → State → Prop
  | done {c : Nat} {st : State} : S.callers.length ≤ c → Gs S c st [] st
  | step {c : Nat} {st st1 st' : State} {xs ys : List Step} : c < S.callers.length → Gc S c st xs st1 → Gs S (c + 1) st1 ys st' → Gs S c st (xs ++ ys) st'
/-- a fair round -/
def Rnd (S : Setting) (st : State) (xs : List Step) (st' : State) : Prop := ∃ xs1 st1 xs2 st2, Dr S st xs1 st1 ∧ Gs S 0 st1 xs2 st2 ∧ Wf S st2 ∧ Szs st2 ∧ xs = xs1 ++ xs2 ++ [.tick] ∧ st' = stepS S st2 .tick ∧ xs.length ≤ 100000
def hasOpen (clr : Clr) : Bool := clr.groups.any fun G => G.calls.any fun k => k.ans.isNone
def clrFree (S : Setting) (st : State) (c : Nat) (clr : Clr) : Bool := !((dueS S st c).is1 || (hasOpen clr && !fless clr.purse whole))
def Stuck (S : Setting) (st : State) : Prop := ¬ Thr S st ∧ Mt st ∧ ∀ c clr, st.callers[c]? = some clr → clrFree S st c clr = true
noncomputable def stuck (S : Setting) (st : State) : Bool := @decide (Stuck S st) (Classical.propDecidable _)
theorem stuck_iff {S : Setting} {st : State} : stuck S st = true ↔ Stuck S st := by
  unfold stuck
  exact @decide_eq_true_iff (Stuck S st) (Classical.propDecidable _)
theorem stuck_not {S : Setting} {st : State} (h : ¬ Stuck S st) : stuck S st = false := by
  cases e : stuck S st with
  | false => rfl
  | true => exact absurd (stuck_iff.mp e) h
noncomputable def over (S : Setting) (st : State) : Bool := thr S st || stuck S st
noncomputable def wordS (S : Setting) (st : State) : Str := if thr S st then "through" else "stuck"
/-- fair rounds until it is over -/
inductive Fr_ (S : Setting) : State → List Step → Nat → State → Prop
  | done {st : State} : Wf S st → over S st = true → Fr_ S st [] 0 st
  | step {st st1 st' : State} {xs ys : List Step} {m : Nat} : Wf S st → over S st = false → Rnd S st xs st1 → Fr_ S st1 ys m st' → Fr_ S st (xs ++ ys) (m + 1) st'
end TC
set_option Elab.async false
set_option linter.all false
set_option maxRecDepth 100000
set_option maxHeartbeats 4000000
/-! Defs, part 10: runs. -/
namespace TC
open PySem L2
section
variable {P : Program} {w : World} {K : PySem.W.Frag} {mg : Str → Option Value} {base : Heap}
/-- a def with defaults -/
theorem cal_pureD {g x : Str} {st : Stmt} {N ps : List Str} {k : Nat} {R : List PyData → PyData → Prop} {dvs dl : List V} (O : Own K mg g (defD x st) dvs) (S : FnScope N ps (defScope st)) (len : ∀ ds d, R ds d → ds.length = ps.length) (hn : ps.length ≤ N.length)
    (bd : ∀ (f : Addr) (fd : FuncData), FunD K x x (defArgs st) (defBody st) (defScope st) dvs [] f fd → ∃ ds, Vals dl ds ∧ Binds K fd ps ds)
    (body : ∀ (f : Addr) (cdv : Value) (A : Around) (outer : List PySem.Env) (s : Shared) (H : Hp) (E : XK), Room k (A.deeper (PyProof.Rows.envOfC x (defScope st) s.heap.objs.size f cdv)) → ∀ ds d, R ds d →
      SJs (BX P w K mg base N x (defScope st) f cdv A outer s H E) (ds.map .d ++ List.replicate (N.length - ds.length) .no) (defBody st) (fun _ => d = .none) (fun d' _ => d' = .d d)) : Cal P w K mg base (k + 1) g (PSp K R) dl := by
  obtain ⟨f, fd, F, m⟩ := O.it
  obtain ⟨dsv, b1, b2⟩ := bd f fd F
  refine ⟨f, fd, ps, dsv, m, F.kp, F.ok (N := N) S (fun vs H Q E h => ?_) (fun cdv A outer s H vs Q E hr h => ?_), b2, b1⟩
  · obtain ⟨ds, d, h1, h2, _⟩ := h
    rw [h1.len]
    exact len _ _ h2
  · obtain ⟨ds, d, h1, h2, h3⟩ := h
    refine ⟨_, PSs.nox pss_w, ?_⟩
    have hl : ds.length ≤ N.length := by rw [len _ _ h2]; exact hn
    refine body f cdv A outer s H E hr ds d h2 H (fun _ => False) _ H (start_env h1 hl) _ (fun σ' H' ρ' e t n => ?_) fun v H' d' ρ' t o q => ?_
    · have z := h3 .non H' e.ex (by rw [n]; exact .non)
      exact z
    · subst q
      exact h3 v H' (o.1.elim fun _ z => z.ex) o.2
theorem sc_run : FnScope ["setting", "steps", "state", "most", "here", "events", "step", "event"] ["setting", "steps", "state", "most"] (defScope (top 67)) := ⟨rfl, rfl, rfl, by decide +kernel, rfl, by decide +kernel, by decide +kernel⟩
def R_run (ds : List PyData) (d : PyData) : Prop := ∃ (S : Setting) (xs : List Step) (sa : PyData) (m : Nat) (st : State), WfS S ∧ ((sa = .none ∧ st = begunS S) ∨ sa = eState st) ∧ Good S (xs.take m) st ∧ xs.length ≤ 100000 ∧ ds = [eSetting S, .tuple (xs.map eStep), sa, dI m] ∧ d = .tuple [eState (runAll S (xs.take m) st), .tuple (evAll S (xs.take m) st)]
theorem run_body {k : Nat} (T : Bl mg) (c1 : Cal P w K mg base 1 "begun" (PSp K R_begun) []) (c2 : Cal P w K mg base 10 "stepped" (PSp K R_stepped) []) (hk : 10 ≤ k) : ∀ (f : Addr) (cdv : Value) (A : Around) (outer : List PySem.Env) (s : Shared) (H : Hp) (E : XK), Room k (A.deeper (PyProof.Rows.envOfC "run" (defScope (top 67)) s.heap.objs.size f cdv)) → ∀ ds d, R_run ds d →
      SJs (BX P w K mg base ["setting", "steps", "state", "most", "here", "events", "step", "event"] "run" (defScope (top 67)) f cdv A outer s H E) (ds.map .d ++ List.replicate (8 - ds.length) .no) (defBody (top 67)) (fun _ => d = .none) (fun d' _ => d' = .d d) := by
  rintro f cdv A outer s H E hr ds d ⟨S, xs, sa, m, st, wf, hs, gd, hz, rfl, rfl⟩
  have h1 := sz
  have nd := sc_run.nd
  refine sjs_par 4 5 (u := .d (eState st)) (v := .l []) (ev_if (k := isNo sa) (td_isN (ed_var 2)) (fun h => ?_) fun h => ?_) (ev_lst ad_nild) ?_ rfl nd
  · rcases hs with ⟨rfl, rfl⟩ | rfl
    · exact ed_call c1 hr (ad_consd (ed_var 0) ad_nild) ⟨S, wf, rfl, rfl⟩ (by omega)
    · cases h
  · rcases hs with ⟨rfl, rfl⟩ | rfl
    · cases h
    · exact ed_var 2
  · refine sjs_cons (sj_for (it_tup (ed_is (ed_toE (ed_var 1) (ed_var 3)) (by rw [← List.map_take]))) (fun i ρ => ∃ y z, ρ = [.d (eSetting S), .d (.tuple (xs.map eStep)), .d sa, .d (dI m), .d (eState (runAll S ((xs.take m).take i) st)), .l (evAll S ((xs.take m).take i) st), y, z])
      (N := fun ρ => ∃ y z, ρ = [.d (eSetting S), .d (.tuple (xs.map eStep)), .d sa, .d (dI m), .d (eState (runAll S (xs.take m) st)), .l (evAll S (xs.take m) st), y, z]) ⟨_, _, rfl⟩ ?_ ?_ rfl PassesOwn.never) ?_
    · rintro i d ρ hd ⟨y, z, rfl⟩
      obtain ⟨x, hx, rfl⟩ := map_at hd
      obtain ⟨w1, w2, w3⟩ := gd.at_ hx
      refine ⟨[(6, eStep x)], gd_name 6 nd, ?_⟩
      refine sjs_asg (ed_call c2 hr (ad_consd (ed_var 0) (ad_consd (ed_var 4) (ad_consd (ed_var 6) ad_nild))) ⟨S, _, x, wf, w1, w2, w3, trivial, rfl, rfl⟩ (by omega)) (gd_tup rfl (gds_cons (gd_name 4 nd) (gds_cons (gd_name 7 nd) gds_nil)) rfl) ?_
      refine sjs_app 5 (ed_var 7) rfl ?_ (sjs_nil ?_) (slot_name 5)
      · rw [evAll_len, List.length_take, List.length_take]
        omega
      · rw [take_snoc hx, runAll_snoc, evAll_snoc]
        exact ⟨_, _, rfl⟩
    · rintro ρ ⟨y, z, rfl⟩
      exact ⟨y, z, by rw [List.length_map, List.take_length]⟩
    · rintro ρ ⟨y, z, rfl⟩
      exact sjs_ret (ed_tup (ad_consd (ed_var 4) (ad_consd (ed_tupOf T.tuple (er_var 5)) ad_nild))) rfl
theorem run_len : ∀ ds d, R_run ds d → ds.length = (["setting", "steps", "state", "most"] : List Str).length := by
  rintro ds d ⟨S, xs, sa, m, st, _, _, _, _, rfl, _⟩; rfl
theorem c_run2 (T : Bl mg) (O : Own K mg "run" (defD "run" (top 67)) [.non, .int 400]) (c1 : Cal P w K mg base 1 "begun" (PSp K R_begun) []) (c2 : Cal P w K mg base 10 "stepped" (PSp K R_stepped) []) : Cal P w K mg base 11 "run" (PSp K R_run) [.non, .int 400] :=
  cal_pureD O sc_run run_len (by decide) (fun f fd F => F.binds1 2 0 (by simp) rfl fun T kV doc pm an cdv ct us its h1 h2 => match us, its, h1, h2 with | [_, _], [_, _], _, _ => ⟨_, rfl, rfl⟩) (run_body T c1 c2 (Nat.le_refl _))
theorem c_run3 (T : Bl mg) (O : Own K mg "run" (defD "run" (top 67)) [.non, .int 400]) (c1 : Cal P w K mg base 1 "begun" (PSp K R_begun) []) (c2 : Cal P w K mg base 10 "stepped" (PSp K R_stepped) []) : Cal P w K mg base 11 "run" (PSp K R_run) [.int 400] :=
  cal_pureD O sc_run run_len (by decide) (fun f fd F => F.binds1 3 1 (by simp) rfl fun T kV doc pm an cdv ct us its h1 h2 => match us, its, h1, h2 with | [_, _, _], [_, _], _, _ => ⟨_, rfl, rfl⟩) (run_body T c1 c2 (Nat.le_refl _))
theorem c_run4 (T : Bl mg) (O : Own K mg "run" (defD "run" (top 67)) [.non, .int 400]) (c1 : Cal P w K mg base 1 "begun" (PSp K R_begun) []) (c2 : Cal P w K mg base 10 "stepped" (PSp K R_stepped) []) : Cal P w K mg base 11 "run" (PSp K R_run) [] :=
  cal_pureD O sc_run run_len (by decide) (fun f fd F => F.binds1 4 2 (by simp) rfl fun T kV doc pm an cdv ct us its h1 h2 => match us, its, h1, h2 with | [_, _, _, _], [_, _], _, _ => ⟨_, rfl, rfl⟩) (run_body T c1 c2 (Nat.le_refl _))
end
end TC
set_option Elab.async false
set_option linter.all false
set_option maxRecDepth 100000
set_option maxHeartbeats 4000000
/-! Defs, part 11: rounds and fair runs. -/
namespace TC
open PySem L2
section
variable {X : Cx} {ρ : List Sl} {a : Expr} {pos : Pos}
theorem ed_neg {i : Int} (h : ED X ρ a (.int i)) : ED X ρ (.UnaryOp .USub a pos) (.int (-i)) := fun σ H ev Q q => wE_of (pe_un un_neg pe_w) (h σ H ev _ fun v H1 e1 o1 => ⟨i, (show DT X.K H1 v (.int i) from o1).of_int, q _ H1 e1 (.int _)⟩)
end
theorem atD_last {ds : List PyData} {d : PyData} : atD (ds ++ [d]) (-1) = some d := by
  unfold atD atI ixN
  rw [if_neg (by omega), List.length_append, List.length_singleton, if_pos (by omega)]
  have e : (-1 + ((ds.length + 1 : Nat) : Int)).toNat = ds.length := by omega
  simp only [Option.bind_some]
  rw [e]
  simp
theorem lay_ans (a : Ans) : Lay 1 (eAns a) := by
  cases a with
  | late => exact lay_tup (lay_cons (lay_str (by decide +kernel)) lay_nil)
  | done m => exact lay_tup (lay_cons (lay_str (by decide +kernel)) (lay_cons (lay_I m) lay_nil))
theorem lay_letter {st : State} {x : Letter} (h : LetOk st x) : Lay 2 (eLetter x) := by
  cases x with
  | ask k cell number last heard => exact lay_tup (lay_cons ((lay_str (by decide +kernel)).up (by decide)) (lay_cons (lay_key k) (lay_cons ((lay_str h.1).up (by decide)) (lay_cons ((lay_I _).up (by decide)) (lay_cons ((lay_I _).up (by decide)) (lay_cons ((lay_I _).up (by decide)) lay_nil))))))
  | tell k a => exact lay_tup (lay_cons ((lay_str (by decide +kernel)).up (by decide)) (lay_cons (lay_key k) (lay_cons (lay_ans a) lay_nil)))
theorem lay_lanes {S : Setting} {st : State} (w : Wf S st) : Lay 4 (.tuple (st.lanes.map eLane)) := lay_map fun l hl => lay_map fun x hx => lay_letter (w.lets l hl x hx)
theorem lay_lane {S : Setting} {st : State} (w : Wf S st) {l : Nat} (h : l < st.lanes.length) : Lay 3 (.tuple ((lane st l).map eLetter)) := lay_map fun x hx => lay_letter (w.lets _ (List.mem_of_getElem? (lane_at h)) x hx)
theorem lay_e0 : Lay 1 (.tuple []) := lay_tup lay_nil
theorem lay_e2 : Lay 2 (.tuple [.tuple [], .tuple []]) := lay_tup (lay_cons lay_e0 (lay_cons lay_e0 lay_nil))
theorem eqv_e0 (l : List Letter) : PyData.eqv (.tuple (l.map eLetter)) (.tuple []) = l.isEmpty := by
  cases l with
  | nil => exact lay_e0.rf
  | cons x r => simp [PyData.eqv, PyData.eqvAll]
theorem eqv_lanes {S : Setting} {st : State} (w : Wf S st) : PyData.eqv (.tuple (st.lanes.map eLane)) (.tuple [.tuple [], .tuple []]) = mt st := by
  obtain ⟨a, b, e⟩ : ∃ a b, st.lanes = [a, b] := by
    have h := w.nl
    match st.lanes, h with
    | [a, b], _ => exact ⟨a, b, rfl⟩
  have e0 : lane st 0 = a := by unfold lane; rw [e]; rfl
  have e1 : lane st 1 = b := by unfold lane; rw [e]; rfl
  unfold mt
  rw [e0, e1, e]
  have z0 := eqv_e0 a
  have z1 := eqv_e0 b
  simp only [List.map_cons, List.map_nil, eLane, PyData.eqv, PyData.eqvAll] at z0 z1 ⊢
  rw [z0, z1, Bool.and_true]
theorem can_next {S : Setting} {st : State} (h : mt st = false) : Can S st (nextGet st) := by
  unfold nextGet
  cases e : (lane st 0).isEmpty with
  | true =>
    refine ⟨by simp, ?_⟩
    unfold mt at h
    rw [e, Bool.true_and] at h
    simp only [if_true]
    cases e1 : lane st 1 with
    | nil => rw [e1] at h; cases h
    | cons x r => simp
  | false =>
    refine ⟨by simp, ?_⟩
    simp only [Bool.false_eq_true, if_false]
    cases e1 : lane st 0 with
    | nil => rw [e1] at e; cases e
    | cons x r => simp
theorem noDue_eq {S : Setting} {st : State} {c : Nat} : noDue S st c = (dueS S st c).no := by
  unfold noDue
  cases dueS S st c <;> rfl
section
variable {P : Program} {w : World} {K : PySem.W.Frag} {mg : Str → Option Value} {base : Heap}
theorem sc_fair_round : FnScope ["setting", "state", "here", "steps", "caller"] ["setting", "state"] (defScope (top 68)) := ⟨rfl, rfl, rfl, by decide +kernel, rfl, by decide +kernel, by decide +kernel⟩
def R_fair_round (ds : List PyData) (d : PyData) : Prop := ∃ (S : Setting) (st : State) (xs : List Step) (st' : State), WfS S ∧ Rnd S st xs st' ∧ ds = [eSetting S, eState st] ∧ d = .tuple [.tuple (xs.map eStep), eState st']
theorem c_fair_round (T : Bl mg) (O : Own K mg "fair_round" (defD "fair_round" (top 68)) []) (c1 : Cal P w K mg base 10 "stepped" (PSp K R_stepped) []) (c2 : Cal P w K mg base 2 "due" (PSp K R_due) []) : Cal P w K mg base 11 "fair_round" (PSp K R_fair_round) [] := by
  refine cal_pure O sc_fair_round ?_ (by decide) (fun _ _ _ _ _ _ us hl => match us, hl with | [_, _], _ => rfl) ?_
  · rintro ds d ⟨S, st, xs, st', _, _, rfl, _⟩; rfl
  · rintro f cdv A outer s H E hr ds d ⟨S, st, xs, st', wf, ⟨xs1, st1, xs2, st2, dr, gs, w2, z2, rfl, rfl, hz⟩, rfl, rfl⟩
    have h1 := sz
    have nd := sc_fair_round.nd
    have hz' : xs1.length + xs2.length + 1 ≤ 100000 := by have := hz; simp only [List.length_append, List.length_cons, List.length_nil] at this; omega
    refine sjs_par 2 3 (u := .d (eState st)) (v := .l []) (ed_var 1) (ev_lst ad_nild) ?_ rfl nd
    refine sjs_cons (sj_while (fun m ρ => ∃ h ys done, Dr S h ys st1 ∧ m = ys.length ∧ done ++ ys = xs1 ∧ ρ = [.d (eSetting S), .d (eState st), .d (eState h), .l (done.map eStep), .no]) (N := fun ρ => ρ = [.d (eSetting S), .d (eState st), .d (eState st1), .l (xs1.map eStep), .no]) ⟨st, xs1, [], dr, rfl, rfl, rfl⟩ ?_ PassesOwn.never) ?_
    · rintro m ρ ⟨h, ys, done, hd, rfl, he, rfl⟩
      cases hd with
      | done wt hm =>
        refine ⟨false, td_is (td_neD (roomU64 hr) (ed_ic (ed_var 2) rfl) (ed_tup (ad_consd (ed_tup ad_nild) (ad_consd (ed_tup ad_nild) ad_nild))) (lay_lanes wt).shaped lay_e2.shaped) (by rw [eqv_lanes wt, hm]; rfl), (fun z => by cases z), fun _ => ?_⟩
        rw [← he, List.append_nil]
      | @step _ _ ys wt z hm hd =>
        refine ⟨true, td_is (td_neD (roomU64 hr) (ed_ic (ed_var 2) rfl) (ed_tup (ad_consd (ed_tup ad_nild) (ad_consd (ed_tup ad_nild) ad_nild))) (lay_lanes wt).shaped lay_e2.shaped) (by rw [eqv_lanes wt, hm]; rfl), fun _ => ?_, (fun z => by cases z)⟩
        have l0 : 0 < h.lanes.length := by rw [wt.nl]; decide
        have hl : done.length + (ys.length + 1) = xs1.length := by rw [← he]; simp
        refine sjs_app (ds := done.map eStep) (d := eStep (nextGet h)) 3 (ed_tup (ad_consd ed_str (ad_consd (ev_if (k := !(lane h 0).isEmpty) (x := .d (dI (if (lane h 0).isEmpty then 1 else 0))) (td_is (td_neD (roomU64 hr) (ed_ic (ed_ic (ed_var 2) rfl) (lanes_at l0)) (ed_tup ad_nild) (lay_lane wt l0).shaped lay_e0.shaped) (by rw [eqv_e0])) (fun q => ed_is ed_k ?_) fun q => ed_is ed_k ?_) (ad_consd ed_k ad_nild)))) rfl (by rw [List.length_map]; omega) ?_ (slot_name 3)
        · rw [show (lane h 0).isEmpty = false by simpa using q]; rfl
        · rw [show (lane h 0).isEmpty = true by simpa using q]; rfl
        · refine sjs_set 2 (y := .d (eState (stepS S h (nextGet h)))) (ed_ic (ed_call c1 hr (ad_consd (ed_var 0) (ad_consd (ed_var 2) (ad_consd (ed_ixL (er_var 3) (ed_neg ed_int) atD_last) ad_nild))) ⟨S, h, nextGet h, wf, wt, z, can_next hm, trivial, rfl, rfl⟩) rfl) (sjs_nil ⟨ys.length, by simp, _, ys, done ++ [nextGet h], hd, rfl, by rw [List.append_assoc]; exact he, ?_⟩) nd
          rw [List.map_append]; rfl
    · rintro ρ rfl
      refine sjs_cons (sj_for (it_range (n := S.callers.length) T.range (ed_lenM eClrS T.len (ed_ic (ed_var 0) rfl)) (by have := wf.nc; omega)) (fun i ρ => ∃ h ys done y, Gs S i h ys st2 ∧ done ++ ys = xs1 ++ xs2 ∧ ρ = [.d (eSetting S), .d (eState st), .d (eState h), .l (done.map eStep), y])
        (N := fun ρ => ∃ y, ρ = [.d (eSetting S), .d (eState st), .d (eState st2), .l ((xs1 ++ xs2).map eStep), y]) ⟨st1, xs2, xs1, _, gs, rfl, rfl⟩ ?_ ?_ rfl PassesOwn.never) ?_
      · rintro i d ρ hd ⟨h, ys, done, y, hg, he, rfl⟩
        obtain ⟨hi, rfl⟩ := range_at hd
        refine ⟨[(4, dI i)], gd_name 4 nd, ?_⟩
        cases hg with
        | done hh => omega
        | @step _ _ h1' _ ys zs hi' gc gs' =>
          refine sjs_one (sj_while (fun m ρ => ∃ h2 us dn, Gc S i h2 us h1' ∧ m = us.length ∧ dn ++ us ++ zs = xs1 ++ xs2 ∧ ρ = [.d (eSetting S), .d (eState st), .d (eState h2), .l (dn.map eStep), .d (dI i)]) ⟨h, ys, done, gc, rfl, by rw [List.append_assoc]; exact he, rfl⟩ ?_ PassesOwn.never)
          rintro m ρ ⟨h2, us, dn, hc, rfl, he2, rfl⟩
          have hlen : dn.length + us.length + zs.length = xs1.length + xs2.length := by rw [← List.length_append, ← List.length_append, he2, List.length_append]
          cases hc with
          | done wt hm =>
            have hc' : i < h1'.callers.length := by rw [wt.shp.nc]; exact hi
            refine ⟨false, td_is (td_neD (roomU64 hr) (ed_call c2 hr (ad_consd (ed_var 0) (ad_consd (ed_var 2) (ad_consd (ed_var 4) ad_nild))) ⟨S, h1', i, rfl, wt.shp, hc', wt.laneOk i, rfl⟩) (ed_tup (ad_consd ed_str ad_nild)) (lay_due _).shaped (lay_due .nothing).shaped) (by rw [eqv_due, ← noDue_eq, hm]; rfl), (fun z => by cases z), fun _ => ⟨h1', zs, dn, _, gs', by rw [← he2, List.append_nil], rfl⟩⟩
          | @step _ _ us wt z hm hc =>
            have hc' : i < h2.callers.length := by rw [wt.shp.nc]; exact hi
            refine ⟨true, td_is (td_neD (roomU64 hr) (ed_call c2 hr (ad_consd (ed_var 0) (ad_consd (ed_var 2) (ad_consd (ed_var 4) ad_nild))) ⟨S, h2, i, rfl, wt.shp, hc', wt.laneOk i, rfl⟩) (ed_tup (ad_consd ed_str ad_nild)) (lay_due _).shaped (lay_due .nothing).shaped) (by rw [eqv_due, ← noDue_eq, hm]; rfl), fun _ => ?_, (fun z => by cases z)⟩
            refine sjs_app (ds := dn.map eStep) (d := eStep (.go i)) 3 (ed_tup (ad_consd ed_str (ad_consd (ed_var 4) ad_nild))) rfl (by rw [List.length_map]; omega) ?_ (slot_name 3)
            refine sjs_set 2 (y := .d (eState (stepS S h2 (.go i)))) (ed_ic (ed_call c1 hr (ad_consd (ed_var 0) (ad_consd (ed_var 2) (ad_consd (ed_ixL (er_var 3) (ed_neg ed_int) atD_last) ad_nild))) ⟨S, h2, .go i, wf, wt, z, hi, trivial, rfl, rfl⟩) rfl) (sjs_nil ⟨us.length, by simp, _, us, dn ++ [.go i], hc, rfl, by rw [← he2]; simp, ?_⟩) nd
            rw [List.map_append]; rfl
      · rintro ρ ⟨h, ys, done, y, hg, he, rfl⟩
        rw [rangeD_len] at hg
        cases hg with
        | done hh => exact ⟨y, by rw [← he, List.append_nil]⟩
        | step hh => omega
      · rintro ρ ⟨y, rfl⟩
        refine sjs_app (ds := (xs1 ++ xs2).map eStep) (d := eStep .tick) 3 (ed_tup (ad_consd ed_str ad_nild)) rfl (by rw [List.length_map, List.length_append]; omega) ?_ (slot_name 3)
        refine sjs_ret (ed_is (ed_tup (ad_consd (ed_tupOf T.tuple (er_var 3)) (ad_consd (ed_ic (ed_call c1 hr (ad_consd (ed_var 0) (ad_consd (ed_var 2) (ad_consd (ed_ixL (er_var 3) (ed_neg ed_int) atD_last) ad_nild))) ⟨S, st2, .tick, wf, w2, z2, trivial, trivial, rfl, rfl⟩) rfl) ad_nild))) ?_) rfl
        rw [List.map_append (l₁ := xs1 ++ xs2)]; rfl
end
end TC
set_option Elab.async false
set_option linter.all false
set_option maxRecDepth 100000
set_option maxHeartbeats 4000000
/-! Defs, part 12: stuck, fair runs. -/
namespace TC
open PySem L2
def retVal : Stmt → Expr
  | .Return (some e) _ => e
  | _ => .Constant .none 0 ⟨0, 0, 0, 0⟩
def argAt : Expr → Nat → Expr
  | .Call _ as _ _, i => as.getD i (.Constant .none 0 ⟨0, 0, 0, 0⟩)
  | _, _ => .Constant .none 0 ⟨0, 0, 0, 0⟩
theorem lay_oans (a : Option Ans) : Lay 1 (eOAns a) := by
  cases a with
  | none => exact lay_non.up (by decide)
  | some a => exact lay_ans a
theorem eqv_non (a : Option Ans) : PyData.eqv (eOAns a) .none = a.isNone := by
  cases a with
  | none => simp [eOAns, PyData.eqv]
  | some a => cases a <;> simp [eOAns, eAns, PyData.eqv]
def Due.word : Due → Str
  | .nothing => "nothing" | .first _ _ => "first" | .further _ _ => "further"
def Due.rest : Due → List PyData
  | .nothing => [] | .first k l => [eKey k, dI l] | .further k l => [eKey k, dI l]
theorem eDue_eq (d : Due) : eDue d = .tuple (.str d.word :: d.rest) := by cases d <;> rfl
theorem word_first (d : Due) : decide (d.word = "first") = d.is1 := by
  cases d with
  | nothing => show decide (("nothing" : Str) = "first") = false; decide +kernel
  | first k l => show decide (("first" : Str) = "first") = true; decide +kernel
  | further k l => show decide (("further" : Str) = "first") = false; decide +kernel
section
variable {P : Program} {w : World} {K : PySem.W.Frag} {mg : Str → Option Value} {base : Heap}
theorem sc_has_open : FnScope ["row", "group", "call"] ["row"] (defScope (top 70)) := ⟨rfl, rfl, rfl, by decide +kernel, rfl, by decide +kernel, by decide +kernel⟩
def R_has_open (ds : List PyData) (d : PyData) : Prop := ∃ clr : Clr, ds = [eClr clr] ∧ clr.groups.length ≤ 1000 ∧ (∀ G ∈ clr.groups, G.calls.length ≤ 1000) ∧ d = .bool (hasOpen clr)
def openG : PyData → PyData
  | .tuple [_, .tuple cs] => .bool (cs.any fun c => match c with
    | .tuple [_, _, _, a] => PyData.eqv a .none
    | _ => false)
  | d => d
def ansOf : PyData → PyData
  | .tuple [_, _, _, a] => a
  | d => d
theorem c_has_open (T : Bl mg) (O : Own K mg "has_open" (defD "has_open" (top 70)) []) : Cal P w K mg base 1 "has_open" (PSp K R_has_open) [] := by
  refine cal_pure O sc_has_open ?_ (by decide) (fun _ _ _ _ _ _ us hl => match us, hl with | [_], _ => rfl) ?_
  · rintro ds d ⟨clr, rfl, _⟩; rfl
  · rintro f cdv A outer s H E hr ds d ⟨clr, rfl, z1, z2, rfl⟩
    have h1 := sz
    have nd := sc_has_open.nd
    refine sjs_ret (ed_is (ed_any (bs := clr.groups.map fun G => G.calls.any fun k => k.ans.isNone) T.any rfl (er_new (ev_lcE (own := [("group", 1)]) openG (it_tup (ed_ic (ed_var 0) rfl)).ic rfl nd (blkOk_by (N := ["row", "group", "call"]) (sc := defScope (top 70)) (by decide +kernel)) (by rw [List.length_map]; omega) ?_ (fun d hd => ?_)))) ?_) rfl
    · simp only [List.map_map]
      refine List.map_congr_left fun G _ => ?_
      simp only [Function.comp, eGrp, openG, List.any_map]
      congr 2
      funext k
      simp only [Function.comp, eCall, eqv_non]
    · obtain ⟨G, hG, rfl⟩ := List.mem_map.mp hd
      have zG := z2 G hG
      refine ⟨[(1, eGrp G)], fun _ _ _ _ _ => gd_name 1 nd, own_by, fun _ _ _ _ _ => ?_⟩
      refine ed_is (ed_inL (ds := G.calls.map fun k => eOAns k.ans) (roomU hr) ed_non (er_new (ev_lcE (own := [("call", 2)]) ansOf (it_tup (ed_ic (ed_var 1) rfl)).ic rfl nd (blkOk_by (N := ["row", "group", "call"]) (sc := lcScope (argAt (retVal (stmtAt (defBody (top 70)) 0)) 0)) (by decide +kernel)) (by rw [List.length_map]; omega) (by simp only [List.map_map]; rfl) (fun d hd => ?_))) lay_non.shaped ?_) ?_
      · obtain ⟨k, _, rfl⟩ := List.mem_map.mp hd
        exact ⟨[(2, eCall k)], fun _ _ _ _ _ => gd_name 2 nd, own_by, fun _ _ _ _ _ => ed_ic (ed_var 2) rfl⟩
      · refine Lay.shaped (n := 2) (lay_lst fun d hd => ?_)
        obtain ⟨k, _, rfl⟩ := List.mem_map.mp hd
        exact lay_oans _
      · simp only [eGrp, openG, List.any_map]
        congr 2
    · unfold hasOpen
      rw [List.any_map]
      rfl
theorem sc_is_stuck : FnScope ["setting", "state", "caller", "row"] ["setting", "state"] (defScope (top 71)) := ⟨rfl, rfl, rfl, by decide +kernel, rfl, by decide +kernel, by decide +kernel⟩
def R_is_stuck (ds : List PyData) (d : PyData) : Prop := ∃ (S : Setting) (st : State), WfS S ∧ Wf S st ∧ ds = [eSetting S, eState st] ∧ d = .bool (stuck S st)
theorem calls_small {S : Setting} {st : State} (wf : WfS S) (wt : Wf S st) {c : Nat} {clr : Clr} (h : st.callers[c]? = some clr) : clr.groups.length ≤ 2 ∧ ∀ G ∈ clr.groups, G.calls.length ≤ 4 := by
  obtain ⟨cs, h1, h2⟩ := wt.shp.clrS h
  refine ⟨by rw [h2]; exact wf.ng cs (List.mem_of_getElem? h1), fun G hG => ?_⟩
  obtain ⟨g, hg⟩ := List.mem_iff_getElem?.mp hG
  have e := grp_mk h hg
  obtain ⟨l, h5⟩ := wt.shp.grpS_ e
  have gl := (wt.grp _ _ _ e).len
  have h6 : lenS S c g = l.length := by unfold lenS; rw [h5]; rfl
  have h7 := wf.grp h5
  omega
theorem c_is_stuck {a0 : Addr} (T : Bl mg) (W : Wh K mg a0) (O : Own K mg "is_stuck" (defD "is_stuck" (top 71)) []) (c1 : Cal P w K mg base 1 "all_through" (PSp K R_all_through) []) (c2 : Cal P w K mg base 2 "due" (PSp K R_due) []) (c3 : Cal P w K mg base 1 "has_open" (PSp K R_has_open) []) (c4 : Cal P w K mg base 1 "is_less" (ASp K (R_is_lessW a0)) []) :
    Cal P w K mg base 3 "is_stuck" (PSp K R_is_stuck) [] := by
  refine cal_pure O sc_is_stuck ?_ (by decide) (fun _ _ _ _ _ _ us hl => match us, hl with | [_, _], _ => rfl) ?_
  · rintro ds d ⟨S, st, _, _, rfl, _⟩; rfl
  · rintro f cdv A outer s H E hr ds d ⟨S, st, wf, wt, rfl, rfl⟩
    have nd := sc_is_stuck.nd
    cases hb : thr S st || !mt st with
    | true =>
      refine sjs_takeR (td_is (TW.td (tw_or (k := thr S st) (m := !mt st) (td_val (ed_call c1 hr (ad_consd (ed_var 0) (ad_consd (ed_var 1) ad_nild)) ⟨S, st, rfl, wt.shp, rfl⟩)) fun _ => tw_or1 (td_is (td_neD (roomU64 hr) (ed_ic (ed_var 1) rfl) (ed_tup (ad_consd (ed_tup ad_nild) (ad_consd (ed_tup ad_nild) ad_nild))) (lay_lanes wt).shaped lay_e2.shaped) (by rw [eqv_lanes wt])))) hb) (sjs_ret ed_bl ?_)
      rw [stuck_not]
      rintro ⟨h1, h2, _⟩
      rw [thr_not h1, mt_iff.mpr h2] at hb
      cases hb
    | false =>
      refine sjs_skip (td_is (TW.td (tw_or (k := thr S st) (m := !mt st) (td_val (ed_call c1 hr (ad_consd (ed_var 0) (ad_consd (ed_var 1) ad_nild)) ⟨S, st, rfl, wt.shp, rfl⟩)) fun _ => tw_or1 (td_is (td_neD (roomU64 hr) (ed_ic (ed_var 1) rfl) (ed_tup (ad_consd (ed_tup ad_nild) (ad_consd (ed_tup ad_nild) ad_nild))) (lay_lanes wt).shaped lay_e2.shaped) (by rw [eqv_lanes wt])))) hb) ?_
      obtain ⟨b1, b2⟩ := Bool.or_eq_false_iff.mp hb
      have n1 : ¬ Thr S st := fun h => by rw [thr_iff.mpr h] at b1; cases b1
      have n2 : Mt st := mt_iff.mp (by simpa using b2)
      refine sjs_cons (sj_for (it_enum T.enumerate (ed_ic (ed_var 1) rfl)) (fun i ρ => (∀ c clr, c < i → st.callers[c]? = some clr → clrFree S st c clr = true) ∧ ∃ x y, ρ = [.d (eSetting S), .d (eState st), x, y]) (N := fun ρ => Stuck S st) ⟨by omega, _, _, rfl⟩ ?_ ?_ rfl PassesOwn.never) ?_
      · rintro i d ρ hd ⟨hI, x, y, rfl⟩
        obtain ⟨clr, hclr, rfl⟩ := enumM_at hd
        have hi := (List.getElem?_eq_some_iff.mp hclr).1
        obtain ⟨zg, zc⟩ := calls_small wf wt hclr
        refine ⟨[(2, dI i), (3, eClr clr)], gd_tup rfl (gds_cons (gd_name 2 nd) (gds_cons (gd_name 3 nd) gds_nil)) rfl, ?_⟩
        refine sjs_one (sj_if (k := (dueS S st i).is1 || (hasOpen clr && !fless clr.purse whole)) (TW.td (tw_or (td_is (td_eqS (ed_ic (d := .str (dueS S st i).word) (ed_is (ed_call c2 hr (ad_consd (ed_var 0) (ad_consd (ed_var 1) (ad_consd (ed_var 2) ad_nild))) ⟨S, st, i, rfl, wt.shp, hi, wt.laneOk i, rfl⟩) (eDue_eq _)) rfl) ed_str) (word_first _)) fun _ => tw_or1 (TW.td (tw_and (td_val (ed_call c3 hr (ad_consd (ed_var 3) ad_nild) ⟨clr, rfl, by omega, fun G hG => by have := zc G hG; omega, rfl⟩)) fun _ => tw_and1 (td_not (td_val (ed_callA c4 hr (ad_cons (ed_ic (ed_var 3) rfl) (ad_cons (ev_glob (v := .ref a0) W.m rfl) ad_nil)) ⟨clr.purse, rfl, rfl⟩))))))) (fun h => ?_) fun h => ?_)
        · refine sjs_ret ed_bl ?_
          rw [stuck_not]
          rintro ⟨_, _, h3⟩
          have := h3 i clr hclr
          unfold clrFree at this
          rw [h] at this
          cases this
        · refine sjs_nil ⟨fun c clr' hc e => ?_, _, _, rfl⟩
          by_cases q : c = i
          · subst q
            cases hclr.symm.trans e
            unfold clrFree
            rw [h]; rfl
          · exact hI c clr' (by omega) e
      · rintro ρ ⟨hI, x, y, rfl⟩
        exact ⟨n1, n2, fun c clr e => hI c clr (by rw [enumD_len, List.length_map]; exact (List.getElem?_eq_some_iff.mp e).1) e⟩
      · rintro ρ h
        exact sjs_ret ed_bl (by rw [stuck_iff.mpr h])
theorem sc_fair_run : FnScope ["setting", "state", "here", "steps", "many", "more"] ["setting", "state"] (defScope (top 72)) := ⟨rfl, rfl, rfl, by decide +kernel, rfl, by decide +kernel, by decide +kernel⟩
def R_fair_run (ds : List PyData) (d : PyData) : Prop := ∃ (S : Setting) (st : State) (xs : List Step) (m : Nat) (st' : State), WfS S ∧ Fr_ S st xs m st' ∧ xs.length ≤ 100000 ∧ ds = [eSetting S, eState st] ∧ d = .tuple [.str (wordS S st'), dI m, .tuple (xs.map eStep), eState st']
theorem c_fair_run (O : Own K mg "fair_run" (defD "fair_run" (top 72)) []) (c1 : Cal P w K mg base 1 "all_through" (PSp K R_all_through) []) (c2 : Cal P w K mg base 3 "is_stuck" (PSp K R_is_stuck) []) (c3 : Cal P w K mg base 11 "fair_round" (PSp K R_fair_round) []) : Cal P w K mg base 12 "fair_run" (PSp K R_fair_run) [] := by
  refine cal_pure O sc_fair_run ?_ (by decide) (fun _ _ _ _ _ _ us hl => match us, hl with | [_, _], _ => rfl) ?_
  · rintro ds d ⟨S, st, xs, m, st', _, _, _, rfl, _⟩; rfl
  · rintro f cdv A outer s H E hr ds d ⟨S, st, xs, m, st', wf, fr, hz, rfl, rfl⟩
    have h1 := sz
    have nd := sc_fair_run.nd
    refine sjs_par3 2 3 4 (u := .d (eState st)) (v := .d (.tuple [])) (w := .d (dI 0)) (ed_var 1) (ed_tup ad_nild) ed_k ?_ rfl nd
    refine sjs_cons (sj_while (fun j ρ => ∃ h ys done i a, Fr_ S h ys j st' ∧ done ++ ys = xs ∧ i + j = m ∧ ρ = [.d (eSetting S), .d (eState st), .d (eState h), .d (.tuple (done.map eStep)), .d (dI i), a]) (N := fun ρ => (Wf S st' ∧ over S st' = true) ∧ ∃ a, ρ = [.d (eSetting S), .d (eState st), .d (eState st'), .d (.tuple (xs.map eStep)), .d (dI m), a]) ⟨st, xs, [], 0, _, fr, rfl, Nat.zero_add _, rfl⟩ ?_ PassesOwn.never) ?_
    · rintro j ρ ⟨h, ys, done, i, a, hf, he, hj, rfl⟩
      cases hf with
      | done wt ho =>
        refine ⟨false, td_is (TW.td (tw_and (k := !thr S st') (m := !stuck S st') (td_not (td_val (ed_call c1 hr (ad_consd (ed_var 0) (ad_consd (ed_var 2) ad_nild)) ⟨S, st', rfl, wt.shp, rfl⟩))) fun _ => tw_and1 (td_not (td_val (ed_call c2 hr (ad_consd (ed_var 0) (ad_consd (ed_var 2) ad_nild)) ⟨S, st', wf, wt, rfl, rfl⟩))))) (by unfold over at ho; rw [← Bool.not_or, ho]; rfl), (fun z => by cases z), fun _ => ⟨⟨wt, ho⟩, a, ?_⟩⟩
        rw [← he, List.append_nil, ← hj]
        rfl
      | @step _ h1' _ ys zs j wt ho rd hf =>
        refine ⟨true, td_is (TW.td (tw_and (k := !thr S h) (m := !stuck S h) (td_not (td_val (ed_call c1 hr (ad_consd (ed_var 0) (ad_consd (ed_var 2) ad_nild)) ⟨S, h, rfl, wt.shp, rfl⟩))) fun _ => tw_and1 (td_not (td_val (ed_call c2 hr (ad_consd (ed_var 0) (ad_consd (ed_var 2) ad_nild)) ⟨S, h, wf, wt, rfl, rfl⟩))))) (by unfold over at ho; rw [← Bool.not_or, ho]; rfl), fun _ => ?_, fun z => by cases z⟩
        have hl : done.length + (ys.length + zs.length) = xs.length := by rw [← he]; simp
        refine sjs_asg (ed_call c3 hr (ad_consd (ed_var 0) (ad_consd (ed_var 2) ad_nild)) ⟨S, h, ys, h1', wf, rd, rfl, rfl⟩) (gd_tup rfl (gds_cons (gd_name 5 nd) (gds_cons (gd_name 2 nd) gds_nil)) rfl) ?_
        refine sjs_par 3 4 (u := .d (.tuple ((done ++ ys).map eStep))) (v := .d (dI (i + 1))) (ed_is (ed_cat (ed_var 3) (ed_var 5) (by rw [List.length_map, List.length_map]; omega)) (by rw [List.map_append])) (ed_addn (ed_var 4) ed_k) (sjs_nil ⟨j, by omega, h1', zs, done ++ ys, i + 1, _, hf, by rw [List.append_assoc]; exact he, by omega, rfl⟩) rfl nd
    · rintro ρ ⟨⟨wt, ho⟩, a, rfl⟩
      refine sjs_ret (ed_is (ed_tup (ad_consd (ev_if (k := thr S st') (x := .d (.str (wordS S st'))) (td_val (ed_call c1 hr (ad_consd (ed_var 0) (ad_consd (ed_var 2) ad_nild)) ⟨S, st', rfl, wt.shp, rfl⟩)) (fun h => ed_is ed_str (by unfold wordS; rw [h]; rfl)) fun h => ed_is ed_str (by unfold wordS; rw [h]; rfl)) (ad_consd (ed_var 4) (ad_consd (ed_var 3) (ad_consd (ed_var 2) ad_nild))))) rfl) rfl
end
end TC
set_option Elab.async false
set_option linter.all false
set_option maxRecDepth 100000
set_option maxHeartbeats 4000000
/-! dict(..) of a known tuple of pairs (keys ints and texts), of a list of pairs whose keys are tuples. -/
namespace TC
open PySem L2 PySem.Spec PyProof.Rows
section
variable {X : Cx}
theorem pairs2_of {pins : List (Addr × Obj)} {σ : L2.St} {H : Hp} {s : Shared} (I : Inv X pins σ H s) : ∀ {ps : List Addr} {kvs : List (L2.Key × V)}, Paired (fun p kv => SqT X.K H p [kV kv.1, kv.2]) ps kvs →
    ∃ (prs : List (L2.Key × Value)) (qs : List (Value × Value)), KV kvs prs ∧ prs.length = ps.length ∧ qs.length = ps.length ∧ ∀ (j : Nat) (u v : Value), qs[j]? = some (u, v) → ∃ (b : Addr) (k : L2.Key), ps[j]? = some b ∧ IsTup s.heap b #[u, v] ∧ prs[j]? = some (k, v) ∧ (mixKind X.prog X.w).is k u = true
  | _, _, .nil => ⟨[], [], .nil, rfl, rfl, fun j u v e => by simp at e⟩
  | _, _, .cons (a := p) (b := kv) h t => by
    obtain ⟨prs, qs, r, l1, l2, hp⟩ := pairs2_of I t
    obtain ⟨its, rv, ht, _⟩ := I.tuple h
    obtain ⟨u, y, ei, ru, ry⟩ := vals2 rv
    subst ei
    refine ⟨(kv.1, y) :: prs, (u, y) :: qs, .cons ⟨rfl, ry⟩ r, by rw [List.length_cons, List.length_cons, l1], by rw [List.length_cons, List.length_cons, l2], fun j u' v' e => ?_⟩
    cases j with
    | zero =>
      have e' : (u, y) = (u', v') := Option.some.inj e
      cases e'
      exact ⟨p, kv.1, rfl, ht, rfl, kV_is ru⟩
    | succ j =>
      obtain ⟨b, k, e1, e2, e3, e4⟩ := hp j u' v' (by simpa using e)
      exact ⟨b, k, by simpa using e1, e2, by simpa using e3, e4⟩
theorem call_dict_cells (hcalm : X.calm = true) : CallR X (.type "dict") (fun xs H Q => ∃ (a : Addr) (o : Obj) (ps : List Addr) (kvs : List (L2.Key × V)), xs = [.ref a] ∧ o.dict = none ∧ H a = some (.frz o (.tup (ps.map V.ref))) ∧ Paired (fun p kv => SqT X.K H p [kV kv.1, kv.2]) ps kvs ∧
    ∀ p, H p = none → Q (.ref p) (upd H p (.dK (mergeK [] kvs)))) := by
  intro pins s σ H xs us Q I r q
  obtain ⟨a, o, ps, kvs, ex, hd, ha, hp, q⟩ := q
  subst ex
  obtain ⟨u, eu, rx⟩ := vals1 r
  subst eu
  cases rx
  obtain ⟨ho, hz, its, rv, o', ho', hc, n, hdat⟩ := (show ObjOk X.prog X.w H s.heap a (.frz o (.tup (ps.map V.ref))) from I.hok a _ ha)
  cases ho.symm.trans ho'
  have ei := refs_at rv
  subst ei
  rw [List.length_map] at hz
  obtain ⟨prs, qs, rel, l1, l2, hpr⟩ := pairs2_of I hp
  refine PySem.call_dict_pairs (knd := mixKind X.prog X.w) (kvs := prs) (PySem.PairArg.tuple a (ps.map Value.ref).toArray (fun j => ps.getD j 0) qs) (I.ok.hd hcalm) ⟨⟨o, n, ho, hc, hd, hdat⟩, by simp [l2], fun j k v hj => ?_⟩ ⟨by rw [l1, l2], fun i key v hi => ?_⟩ (by rw [l2]; exact hz) fun h' tk hd' hk => ?_
  · obtain ⟨b, k', e1, e2, _⟩ := hpr j k v hj
    have eg : ps.getD j 0 = b := by simp [List.getD, e1]
    exact ⟨by show _ = some (Value.ref (ps.getD j 0)); rw [eg]; simp [e1], by show PySem.PairAt _ (ps.getD j 0) _ _; rw [eg]; exact .inl e2⟩
  · obtain ⟨b, k', e1, e2, e3, e4⟩ := hpr i key v hi
    exact ⟨k', e3, e4⟩
  · have hm : (s.heap.objs.size == sysModules) = false := beq_eq_false_iff_ne.mpr (Nat.ne_of_gt I.big)
    have hlen : (mergeK [] kvs).length ≤ sizeLine := by
      refine Nat.le_trans (length_mergeK kvs []) ?_
      rw [List.length_nil, Nat.zero_add, rel.length, l1]
      exact hz
    exact ⟨.ref s.heap.objs.size, upd H s.heap.objs.size (.dK (mergeK [] kvs)), I.laid (t' := tk) (fun b ob e => hk b ob (by simp) e) (Nat.le_refl _) (show ObjOk X.prog X.w _ _ _ (.dK (mergeK [] kvs)) from ⟨hlen, hm, merged [] prs, KV.merge rel .nil, hd'⟩), rfl, q _ (I.hok.fresh (Nat.le_refl _))⟩
/-! ### keys that are tuples -/
theorem storedAll_nd {K : Type} [DecidableEq K] : ∀ (ps xs : List (K × Addr × Value)), ((xs ++ ps).map (·.1)).Nodup → PySem.storedAllH xs ps = xs ++ ps
  | [], xs, _ => by simp [PySem.storedAllH]
  | p :: ps, xs, h => by
    have hn : atKey xs p.1 = none := by
      cases e : atKey xs p.1 with
      | none => rfl
      | some q =>
        exfalso
        unfold atKey at e
        cases e2 : xs.find? (fun x => decide (x.1 = p.1)) with
        | none => rw [e2] at e; cases e
        | some y =>
          have hy := List.mem_of_find?_eq_some e2
          have hk : y.1 = p.1 := by simpa using List.find?_some e2
          rw [List.map_append, List.map_cons, List.nodup_append] at h
          exact h.2.2 y.1 (List.mem_map.mpr ⟨y, hy, rfl⟩) p.1 List.mem_cons_self hk
    have e : storedH xs p.1 p.2.1 p.2.2 = xs ++ [p] := storedH_new hn _ _
    show PySem.storedAllH (storedH xs p.1 p.2.1 p.2.2) ps = _
    rw [e, storedAll_nd ps (xs ++ [p]) (by simpa using h)]
    simp
/-- the pair at p: a key tuple, a value -/
def KP (K : PySem.W.Frag) (H : Hp) (p : Addr) (kv : List L2.Key × V) : Prop := ∃ b, SqT K H p [.ref b, kv.2] ∧ H b = some (.tup (kv.1.map kV))
theorem pairs3_of {pins : List (Addr × Obj)} {σ : L2.St} {H : Hp} {s : Shared} (I : Inv X pins σ H s) : ∀ {ps : List Addr} {kvs : List (List L2.Key × V)}, Paired (KP X.K H) ps kvs →
    ∃ (prs : List (List L2.Key × Addr × Value)) (qs : List (Value × Value)), KT H kvs prs ∧ prs.length = ps.length ∧ qs.length = ps.length ∧ ∀ (j : Nat) (u v : Value), qs[j]? = some (u, v) → ∃ (b : Addr) (k : List L2.Key) (c : Addr), ps[j]? = some b ∧ IsTup s.heap b #[u, v] ∧ prs[j]? = some (k, c, v) ∧ u = .ref c
  | _, _, .nil => ⟨[], [], .nil, rfl, rfl, fun j u v e => by simp at e⟩
  | _, _, .cons (a := p) (b := kv) h t => by
    obtain ⟨prs, qs, r, l1, l2, hp⟩ := pairs3_of I t
    obtain ⟨c, h, hc⟩ := h
    obtain ⟨its, rv, ht, _⟩ := I.tuple h
    obtain ⟨u, y, ei, ru, ry⟩ := vals2 rv
    subst ei
    cases (show u = Value.ref c from ru)
    refine ⟨(kv.1, c, y) :: prs, (.ref c, y) :: qs, .cons ⟨rfl, hc, ry⟩ r, by rw [List.length_cons, List.length_cons, l1], by rw [List.length_cons, List.length_cons, l2], fun j u' v' e => ?_⟩
    cases j with
    | zero =>
      have e' : (Value.ref c, y) = (u', v') := Option.some.inj e
      cases e'
      exact ⟨p, kv.1, c, rfl, ht, rfl, rfl⟩
    | succ j =>
      obtain ⟨b, k, c', e1, e2, e3, e4⟩ := hp j u' v' (by simpa using e)
      exact ⟨b, k, c', by simpa using e1, e2, by simpa using e3, e4⟩
theorem KT.keys {H : Hp} : ∀ {kvs : List (List L2.Key × V)} {xs : List (List L2.Key × Addr × Value)}, KT H kvs xs → xs.map (·.1) = kvs.map (·.1)
  | _, _, .nil => rfl
  | _, _, .cons h t => by rw [List.map_cons, List.map_cons, KT.keys t, h.1]
theorem KT.is {pins : List (Addr × Obj)} {σ : L2.St} {H : Hp} {s : Shared} (I : Inv X pins σ H s) : ∀ {kvs : List (List L2.Key × V)} {xs : List (List L2.Key × Addr × Value)}, KT H kvs xs → ∀ x ∈ xs, (tupleKind (mixKind X.prog X.w)).is s.heap x.1 x.2.1
  | _, _, .nil => fun x h => by cases h
  | _, _, .cons h t => fun x hx => by
    rcases List.mem_cons.mp hx with rfl | hx
    · exact key_of I.hok (by rw [← h.1]; exact h.2.1)
    · exact KT.is I t x hx
theorem call_dict_keysT (hcalm : X.calm = true) (hu : X.A.units + 2 < cLine) : CallR X (.type "dict") (fun xs H Q => ∃ (a : Addr) (ps : List Addr) (kvs : List (List L2.Key × V)), xs = [.ref a] ∧ SqL X.K H a (ps.map V.ref) ∧ Paired (KP X.K H) ps kvs ∧ (kvs.map (·.1)).Nodup ∧
    ∀ p, H p = none → Q (.ref p) (upd H p (.dT kvs))) := by
  intro pins s σ H xs us Q I r q
  obtain ⟨a, ps, kvs, ex, hq, hp, nd, q⟩ := q
  subst ex
  obtain ⟨u, eu, rx⟩ := vals1 r
  subst eu
  cases rx
  obtain ⟨its, rv, pl, hz⟩ := I.list hq
  have ei := refs_at rv
  subst ei
  rw [List.length_map] at hz
  obtain ⟨prs, qs, rel, l1, l2, hpr⟩ := pairs3_of I hp
  obtain ⟨o, n, ho, hc, hd, hdat⟩ := pl
  have ndp : (prs.map (·.1)).Nodup := by rw [KT.keys rel]; exact nd
  refine PySem.call_dict_pairsH (knd := tupleKind (mixKind X.prog X.w)) (ps := prs) (PySem.PairArg.list a (ps.map Value.ref).toArray (fun j => ps.getD j 0) qs) (I.ok.hd hcalm) (by show X.A.units + 1 + 1 < cLine; omega) ⟨⟨o, n, ho, hc, hd, hdat⟩, by simp [l2], fun j k v hj => ?_⟩ ⟨by rw [l1, l2], fun i key v hi => ?_⟩ ?_ (by rw [l2]; exact hz) fun h' tk hd' hk => ?_
  · obtain ⟨b, k', c, e1, e2, _⟩ := hpr j k v hj
    have eg : ps.getD j 0 = b := by simp [List.getD, e1]
    exact ⟨by show _ = some (Value.ref (ps.getD j 0)); rw [eg]; simp [e1], by show PySem.PairAt _ (ps.getD j 0) _ _; rw [eg]; exact .inl e2⟩
  · obtain ⟨b, k', c, e1, e2, e3, e4⟩ := hpr i key v hi
    exact ⟨k', c, e3, e4⟩
  · intro h' hk x hx
    exact (PySem.tupleKind_stays (knd := mixKind X.prog X.w)).stays (fun b ob vs n e _ => hk b ob (Nat.ne_of_lt (Heap.lt_size e)) (by simp) e) (KT.is I rel x hx)
  · rw [storedAll_nd prs [] (by simpa using ndp), List.nil_append] at hd'
    have hm : (s.heap.objs.size == sysModules) = false := beq_eq_false_iff_ne.mpr (Nat.ne_of_gt I.big)
    have hlen : kvs.length ≤ sizeLine := by
      have e : kvs.length = prs.length := Paired.length rel
      rw [e, l1]
      exact hz
    have hn := I.hok.fresh (Nat.le_refl s.heap.objs.size)
    obtain ⟨o2, es, ep, h1, h2, h3, h4, _, h5⟩ := hd'
    refine ⟨.ref s.heap.objs.size, upd H s.heap.objs.size (.dT kvs), I.laid (t' := tk) (fun b ob e => hk b ob (by simp) e) (Nat.le_refl _) (show ObjOk X.prog X.w _ _ _ (.dT kvs) from ⟨hlen, hm, prs, rel.keeps fun c ys ec => ?_, o2, es, ep, h1, h2, h3, h4, h5⟩), rfl, q _ hn⟩
    rw [upd_ne (ne_of_none ec hn)]
    exact ec
end
end TC
set_option Elab.async false
set_option linter.all false
set_option maxRecDepth 100000
set_option maxHeartbeats 4000000
/-! Worlds: reading in them, changing them. -/
namespace TC
open PySem L2
/-- what the slots tell of the heap -/
def HF (X : Cx) (ρ : List Sl) (φ : Hp → Prop) : Prop := ∀ σ H, Env X.K H σ ρ → φ H
/-- a value that is nobody's own -/
def SlV (K : PySem.W.Frag) (H : Hp) (v : V) : Sl → Prop
  | .no => True
  | .d d => DT K H v d
  | .r w => v = w
  | _ => False
theorem SlV.vok {K : PySem.W.Frag} {H0 H : Hp} {v : V} : ∀ {x : Sl}, SlV K H v x → VOk K H0 H v x
  | .no, _ => trivial
  | .d _, h => h
  | .r _, h => h
section
variable {X : Cx} {ρ : List Sl} {a b c e o : Expr} {es : List Expr} {pos p2 p : Pos}
theorem hf_w (i : Nat) {v : V} {W : Wld} (h : ρ[i]? = some (.w v W) := by rfl) : HF X ρ W.ok := fun σ H ev => (ev.sl i _ h).2
theorem hf_b (i : Nat) {v : V} {W : Wld} (h : ρ[i]? = some (.b v W) := by rfl) : HF X ρ W.ok := fun σ H ev => (ev.sl i _ h).2
theorem ev_w (i : Nat) {x : Str} {v : V} {W : Wld} (h : ρ[i]? = some (.w v W) := by rfl) (hN : X.N[i]? = some x := by rfl) (hv : Vis X.env.scope x := by first | exact Or.inl rfl | exact Or.inr (Or.inl rfl) | exact Or.inr (Or.inr rfl)) (hd : (x == ("__debug__" : Str)) = false := by decide) (hcd : (x == ("__classdict__" : Str)) = false := by decide) : EV X ρ (.Name x p) (.r v) := fun σ H ev Q q =>
  wE_of (pe_var hN hv hd hcd) ⟨v, (ev.sl i _ h).1, q v H (Ex.rf H) rfl⟩
theorem ev_b (i : Nat) {x : Str} {v : V} {W : Wld} (h : ρ[i]? = some (.b v W) := by rfl) (hN : X.N[i]? = some x := by rfl) (hv : Vis X.env.scope x := by first | exact Or.inl rfl | exact Or.inr (Or.inl rfl) | exact Or.inr (Or.inr rfl)) (hd : (x == ("__debug__" : Str)) = false := by decide) (hcd : (x == ("__classdict__" : Str)) = false := by decide) : EV X ρ (.Name x p) (.r v) := fun σ H ev Q q =>
  wE_of (pe_var hN hv hd hcd) ⟨v, (ev.sl i _ h).1, q v H (Ex.rf H) rfl⟩
/-- d[k], a key of text or number -/
def kD : L2.Key → PyData
  | .inl i => .int i
  | .inr x => .str x
theorem dt_kV {K : PySem.W.Frag} {H : Hp} {v : V} {k : L2.Key} (h : DT K H v (kD k)) : v = kV k := by
  cases k with
  | inl i => exact h.of_int
  | inr x => exact h.of_str
theorem ev_dget {t : Addr} {k : L2.Key} {x : Sl} (hu : X.A.units + 1 < cLine) (ho : EV X ρ o (.r (.ref t))) (hk : ED X ρ e (kD k)) (hf : HF X ρ fun H => ∃ kvs v, H t = some (.dK kvs) ∧ valV kvs k = some v ∧ SlV X.K H v x) (hs : NoSl e := by exact fun _ _ => rfl) : EV X ρ (.Subscript o e pos) x := fun σ H ev Q q =>
  wE_of (pe_dget hu pe_w pe_w hs) (ho σ H ev _ fun v H1 e1 o1 => hk σ H1 (ev.ex e1) _ fun w H2 e2 o2 => by
    cases (show v = .ref t from o1)
    obtain ⟨kvs, u, h1, h2, h3⟩ := hf σ H2 (ev.ex (e1.tr e2))
    refine ⟨t, u, rfl, .inl ⟨kvs, k, .inl h1, dt_kV o2, h2.symm⟩, q u H2 (e1.tr e2) h3.vok⟩)
/-- l[i] -/
theorem ev_lix {t : Addr} {n : Nat} {x : Sl} (ho : EV X ρ o (.r (.ref t))) (hk : ED X ρ e (.int (n : Int))) (hf : HF X ρ fun H => ∃ vs v, H t = some (.lst vs) ∧ vs[n]? = some v ∧ SlV X.K H v x) (hs : PlainIx e := by exact fun _ _ => rfl) : EV X ρ (.Subscript o e pos) x := fun σ H ev Q q =>
  wE_of (pe_ix ix_list pe_w pe_w hs) (ho σ H ev _ fun v H1 e1 o1 => hk σ H1 (ev.ex e1) _ fun w H2 e2 o2 => by
    cases (show v = .ref t from o1)
    obtain ⟨vs, u, h1, h2, h3⟩ := hf σ H2 (ev.ex (e1.tr e2))
    have hn := (List.getElem?_eq_some_iff.mp h2).1
    refine ⟨t, vs, (n : Int), u, rfl, (show DT X.K H2 w (.int (n : Int)) from o2).of_int, .of h1, ?_, q u H2 (e1.tr e2) h3.vok⟩
    unfold atI ixN
    rw [if_pos (by omega), if_pos (by omega)]
    simpa using h2)
/-- a list of data in a world, to be read -/
theorem er_lst {t : Addr} {ds : List PyData} (ho : EV X ρ e (.r (.ref t))) (hf : HF X ρ fun H => ∃ vs, H t = some (.lst vs) ∧ DTs X.K H vs ds) : ER X ρ e ds := fun σ H ev Q q => ho σ H ev _ fun v H1 e1 o1 => by
  cases (show v = .ref t from o1)
  obtain ⟨vs, h1, h2⟩ := hf σ H1 (ev.ex e1)
  exact q t vs H1 e1 h1 h2
/-- len of a list in a world -/
theorem ed_lenR {t : Addr} {n : Nat} (hm : X.mg "len" = none) (ho : EV X ρ a (.r (.ref t))) (hf : HF X ρ fun H => ∃ vs, H t = some (.lst vs) ∧ vs.length = n) (hg : Gl X "len" := by rfl) (he : starEach [a] X.env = (false, eval a X.env) :: starEach [] X.env := by rfl) (hpl : (backTo pos (starEach [] X.env)).any (·.1) = false := by rfl) : ED X ρ (.Call (.Name "len" p) [a] [] pos) (.int (n : Int)) := fun σ H ev Q q =>
  wE_of (pe_callB call_len_seq hg hm PySem.boot_len (pa_cons pe_w pa_nil he) (by decide) (by decide) he hpl) (ho σ H ev _ fun v H1 e1 o1 => by
    cases (show v = .ref t from o1)
    obtain ⟨vs, h1, h2⟩ := hf σ H1 (ev.ex e1)
    exact ⟨t, vs, rfl, .inl (.of h1), by rw [h2]; exact q _ H1 e1 (.int _)⟩)
/-! ### changes -/
/-- from H to H' the world W went to one of P -/
structure WStep (W : Wld) (P : Wld → Prop) (H H' : Hp) : Prop where
  off : ∀ a o, H a = some o → ¬ W.F a → H' a = some o
  tk : Tk H H'
  nw : ∃ W', P W' ∧ W'.ok H' ∧ ∀ a, W'.F a → W.F a ∨ H a = none
variable {st : Stmt} {rest : List Stmt} {N : List Sl → Prop} {R : Sl → List Sl → Prop}
theorem sjs_w (i : Nat) {v : V} {W : Wld} {P : Wld → Prop} (h0 : ρ[i]? = some (.w v W)) (run : ∀ σ H (D : Ends), Env X.K H σ ρ → (∀ H', WStep W P H H' → D.nx σ H') → wS X st D σ H) (t : ∀ W', P W' → SJs X (ρ.set i (.w v W')) rest N R) : SJs X ρ (st :: rest) N R :=
  sjs_cons (M := fun ρ' => ∃ W', P W' ∧ ρ' = ρ.set i (.w v W')) (fun B F σ H ev D k r => run σ H D ev.env fun H' ws => by
    obtain ⟨W', h1, h2, h3⟩ := ws.nw
    exact k σ H' _ (ev.mutW h0 ws.off ws.tk h2 h3) ws.tk ⟨W', h1, rfl⟩) fun ρ' m => by
    obtain ⟨W', h1, rfl⟩ := m
    exact t W' h1
theorem tk_dk {H : Hp} {p : Addr} {o : HO} {kvs : List (L2.Key × V)} (hl : H p = some (.dK kvs)) : Tk H (upd H p o) := Tk.up (fun xs z => by rw [hl] at z; cases z) fun u xs z => by rw [hl] at z; cases z
theorem tk_dt {H : Hp} {p : Addr} {o : HO} {kvs : List (List L2.Key × V)} (hl : H p = some (.dT kvs)) : Tk H (upd H p o) := Tk.up (fun xs z => by rw [hl] at z; cases z) fun u xs z => by rw [hl] at z; cases z
end
end TC
set_option Elab.async false
set_option linter.all false
set_option maxRecDepth 100000
set_option maxHeartbeats 4000000
/-! sorted(..) of data: of a tuple, of a dict's keys, of a dict's items. -/
namespace TC
open PySem L2 PySem.Spec PyProof.Rows PySem.W PySem.Calls
section
variable {X : Cx} {pins : List (Addr × Obj)} {σ : L2.St} {H : Hp} {s : Shared}
/-- what is sorted: values, what they are, their data -/
structure Srt (X : Cx) (h : Heap) (vs : List Value) (bs : List (V × PyData)) : Prop where
  rd : EachIs (fun v b => ∃ as, Reads h v b.2 as) vs bs
  rel : EachIs (fun v b => RelV b.1 v) vs bs
  al : AllAlike (bs.map (·.2))
  so : Sortable (bs.map (·.2))
  le : bs.length ≤ sizeLine
  un : ∀ b, b ∈ bs → X.A.units + 2 + b.2.depth < cLine
theorem each_vals : ∀ {vs : List Value} {bs : List (V × PyData)}, EachIs (fun v b => RelV b.1 v) vs bs → Vals (bs.map (·.1)) vs
  | _, _, .nil => .nil
  | _, _, .cons h t => .cons h (each_vals t)
def sortB (bs : List (V × PyData)) : List (V × PyData) := bs.mergeSort (dataLe false (·.2))
theorem sort_core (I : Inv X pins σ H s) {arg : Value} {φ : Heap → List Value → List (V × PyData) → Prop} {Q : VK}
    (coll : ∀ {R : List Value → Shared → Prop}, (∀ h' tk vs bs, (∀ b o, s.heap.get? b = some o → h'.get? b = some o) → φ h' vs bs → R vs { s with heap := h', toks := tk }) → wpAny (model X.prog X.w) X.A.in1 (collect arg) R X.xe s)
    (hφ : ∀ h' vs bs, (∀ b o, s.heap.get? b = some o → h'.get? b = some o) → φ h' vs bs → Srt X h' vs bs)
    (q : ∀ h' hF tk vs bs, (∀ b o, s.heap.get? b = some o → h'.get? b = some o) → φ h' vs bs → (∀ b o, h'.get? b = some o → hF.get? b = some o) → H h'.objs.size = none → Inv X pins σ (upd H h'.objs.size (.lst ((sortB bs).map (·.1)))) { s with heap := hF, toks := tk } →
      EP X pins σ Q (.ref h'.objs.size) { s with heap := hF, toks := tk }) :
    wpAny (model X.prog X.w) X.A (call (.builtin "sorted") [arg]) (EP X pins σ Q) X.xe s := by
  refine call_function_entry kind_sorted plain_sorted entry_sorted (args_sorted1 _) ?_
  unfold Builtin.«sorted»
  refine wpAny_bind (m := checkCount "sorted" 1 1 _) (wpAny_pure ?_)
  refine wpAny_bind (coll fun h' tk vs bs hk hp => ?_)
  have S := hφ h' vs bs hk hp
  have hl : vs.length = bs.length := S.rd.length
  refine wpAny_bind (wpAny_newList ?_ (by rw [hl]; exact S.le))
  have hob : (h'.push { cls := .type "list", data := .seq vs.toArray }).get? h'.objs.size = some (seqObj "list" vs.toArray 0) := Heap.get?_push_size _ rfl
  have ne0 : ∀ b o, h'.get? b = some o → b ≠ h'.objs.size := fun b o e => Nat.ne_of_lt (Heap.lt_size e)
  have ka : ∀ b o, h'.get? b = some o → (h'.push { cls := .type "list", data := .seq vs.toArray }).get? b = some o := fun b o e => Heap.get?_push_of_some _ e
  have er' : EachIs (fun v (b : V × PyData) => ∃ as, Reads (sortingHeap (h'.push { cls := .type "list", data := .seq vs.toArray }) h'.objs.size vs) v b.2 as) vs bs :=
    S.rd.mono fun _ _ ⟨as, r⟩ => ⟨as, PyProof.Rows.Reads.keeps (fun b o e => sortingHeap_old (ne0 b o e) (ka b o e)) r⟩
  refine wpAny_bind (wpAny_holding (wpAny_call_entry slot_list_sort ⟨_, hob, rfl⟩ entry_list_sort (list_sort_vals (s := { s with heap := h'.push { cls := .type "list", data := .seq vs.toArray }, toks := tk }) (κ := dataKind (sortingHeap (h'.push { cls := .type "list", data := .seq vs.toArray }) h'.objs.size vs) (bs.map (·.2))) hob
    (SortsAt.data (each_map (R := fun v d => ∃ as, Reads (sortingHeap (h'.push { cls := .type "list", data := .seq vs.toArray }) h'.objs.size vs) v d as) (fun b : V × PyData => b.2) er') S.al S.so (bound_map (A := X.A.in1.in1) (enc := fun b : V × PyData => b.2) S.un)) (by rw [hl]; exact S.le) ⟨.none, rfl, ?_⟩) (args_list_sort _)))
  refine wpAny_pure ⟨_, rfl, ?_⟩
  have eo : EachIs (fun v (b : V × PyData) => RelV b.1 v) (sortVals (dataKind (sortingHeap (h'.push { cls := .type "list", data := .seq vs.toArray }) h'.objs.size vs) (bs.map (·.2))) false vs vs) (bs.mergeSort (dataLe false (·.2))) := sortVals_data false S.rel er' S.al
  have I1 : Inv X pins σ H { s with heap := h', toks := tk } := I.kept (t' := tk) hk
  have kF : ∀ b o, h'.get? b = some o → (sortedHeap (h'.push { cls := .type "list", data := .seq vs.toArray }) h'.objs.size vs (sortVals (dataKind (sortingHeap (h'.push { cls := .type "list", data := .seq vs.toArray }) h'.objs.size vs) (bs.map (·.2))) false vs vs).toArray).get? b = some o := fun b o e => (PyProof.Rows.sortedHeap_old (ne0 b o e) (Heap.lt_size (ka b o e))).trans (ka b o e)
  have I2 := I1.kept (t' := tk) kF
  have hn : H h'.objs.size = none := I1.hok.fresh (Nat.le_refl _)
  obtain ⟨eF, heF⟩ := PyProof.Rows.sortedHeap_at (vs := vs) (out := (sortVals (dataKind (sortingHeap (h'.push { cls := .type "list", data := .seq vs.toArray }) h'.objs.size vs) (bs.map (·.2))) false vs vs).toArray) hob
  refine q h' _ tk vs bs hk hp kF hn (I2.take (t' := tk) (fun b ob _ e => e) (I1.fpOk (Nat.le_refl _) hn) ⟨?_, _, eF, each_vals eo, heF⟩)
  unfold sortB
  rw [List.length_map, List.length_mergeSort]
  exact S.le
end
end TC
set_option Elab.async false
set_option linter.all false
set_option maxRecDepth 100000
set_option maxHeartbeats 4000000
/-! sorted(..) of data, as rules over the hand layer. -/
namespace TC
open PySem L2 PySem.Spec PyProof.Rows PySem.W PySem.Calls
def srtD (ds : List PyData) : List PyData := ds.mergeSort (dataLe false id)
theorem sortB_snd (bs : List (V × PyData)) : (sortB bs).map (·.2) = srtD (bs.map (·.2)) := by
  unfold sortB srtD
  exact List.map_mergeSort fun a _ b _ => rfl
theorem dts_zip {K : PySem.W.Frag} {H : Hp} : ∀ {us : List V} {ds : List PyData}, DTs K H us ds → (∀ b ∈ us.zip ds, DT K H b.1 b.2) ∧ (us.zip ds).map (·.2) = ds
  | _, _, .nil => ⟨fun b h => (by cases h), rfl⟩
  | _, _, .cons h t => by
    obtain ⟨h1, h2⟩ := dts_zip t
    refine ⟨fun b hb => ?_, by rw [List.zip_cons_cons, List.map_cons, h2]⟩
    rcases List.mem_cons.mp hb with rfl | hb
    · exact h
    · exact h1 b hb
theorem dts_of_mem {K : PySem.W.Frag} {H : Hp} : ∀ {bs : List (V × PyData)}, (∀ b ∈ bs, DT K H b.1 b.2) → DTs K H (bs.map (·.1)) (bs.map (·.2))
  | [], _ => .nil
  | b :: bs, h => .cons (h b List.mem_cons_self) (dts_of_mem fun c hc => h c (List.mem_cons_of_mem _ hc))
theorem sortB_dts {K : PySem.W.Frag} {H : Hp} {bs : List (V × PyData)} (h : ∀ b ∈ bs, DT K H b.1 b.2) : DTs K H ((sortB bs).map (·.1)) (srtD (bs.map (·.2))) := by
  rw [← sortB_snd]
  exact dts_of_mem fun b hb => h b ((List.mergeSort_perm bs _).mem_iff.mp hb)
/-- data that may be sorted -/
structure SrtD (u : Nat) (ds : List PyData) : Prop where
  al : AllAlike ds
  so : Sortable ds
  un : ∀ d ∈ ds, u + 2 + d.depth < cLine
section
variable {X : Cx} {pins : List (Addr × Obj)} {σ : L2.St} {H : Hp} {s : Shared}
theorem reads_zip (I : Inv X pins σ H s) : ∀ {us : List V} {ds : List PyData} {vs : List Value}, DTs X.K H us ds → Vals us vs → EachIs (fun v (b : V × PyData) => ∃ as, Reads s.heap v b.2 as) vs (us.zip ds) ∧ EachIs (fun v (b : V × PyData) => RelV b.1 v) vs (us.zip ds)
  | _, _, _, .nil, .nil => ⟨.nil, .nil⟩
  | _, _, _, .cons h t, .cons r q => by
    obtain ⟨h1, h2⟩ := reads_zip I t q
    exact ⟨.cons (Dp.reads I _ _ _ h.dp r) h1, .cons r h2⟩
theorem srt_of (I : Inv X pins σ H s) {us : List V} {ds : List PyData} {vs : List Value} (h : DTs X.K H us ds) (r : Vals us vs) (z : us.length ≤ sizeLine) (S : SrtD X.A.units ds) {h' : Heap} (hk : ∀ b o, s.heap.get? b = some o → h'.get? b = some o) : Srt X h' vs (us.zip ds) := by
  obtain ⟨e1, e2⟩ := reads_zip I h r
  have e3 := (dts_zip h).2
  refine ⟨e1.mono fun _ _ ⟨as, r⟩ => ⟨as, PyProof.Rows.Reads.keeps hk r⟩, e2, by rw [e3]; exact S.al, by rw [e3]; exact S.so, ?_, fun b hb => S.un b.2 ?_⟩
  · rw [List.length_zip]; omega
  · have : b.2 ∈ (us.zip ds).map (·.2) := List.mem_map.mpr ⟨b, hb, rfl⟩
    rwa [e3] at this
/-- sorted(t), t a tuple -/
theorem cr_sortedTup : CallR X (.builtin "sorted") (fun xs H Q => ∃ a us ds, xs = [.ref a] ∧ SqT X.K H a us ∧ DTs X.K H us ds ∧ SrtD X.A.units ds ∧ ∀ p ws, H p = none → DTs X.K H ws (srtD ds) → Q (.ref p) (upd H p (.lst ws))) := by
  intro pins s σ H xs us Q I r h
  obtain ⟨a, vs, ds, rfl, ha, hd, S, q⟩ := h
  obtain ⟨u, rfl, rx⟩ := vals1 r
  cases rx
  obtain ⟨its, rv, ⟨o, ho, hc, n, hdat⟩, hz⟩ := I.tuple ha
  refine sort_core I (φ := fun h' ws bs => ws = its ∧ bs = vs.zip ds) (fun {R} k => ?_) (fun h' ws bs hk hp => ?_) fun h' hF tk ws bs hk hp kF hn I' => ?_
  · refine wpAny_collect_seq a (T := "tuple") (.inr rfl) ho hc hdat (fun h' hk => ?_) (by rw [List.size_toArray, ← rv.length]; exact hz)
    exact k h' s.toks its (vs.zip ds) hk ⟨rfl, rfl⟩
  · obtain ⟨rfl, rfl⟩ := hp
    exact srt_of I hd rv hz S hk
  · obtain ⟨rfl, rfl⟩ := hp
    refine ⟨.ref h'.objs.size, _, I', rfl, q _ _ hn ?_⟩
    have z := sortB_dts (dts_zip hd).1
    rwa [(dts_zip hd).2] at z
/-! ### a dict's keys that are tuples -/
def keyD : L2.Key → PyData
  | .inl i => .int i
  | .inr x => .str x
def keyDs (ks : List L2.Key) : PyData := .tuple (ks.map keyD)
theorem dt_key {K : PySem.W.Frag} {H : Hp} (k : L2.Key) : DT K H (kV k) (keyD k) := by
  cases k with
  | inl i => exact .int i
  | inr x => exact .str x
theorem dts_keys {K : PySem.W.Frag} {H : Hp} : ∀ ks : List L2.Key, DTs K H (ks.map kV) (ks.map keyD)
  | [] => .nil
  | k :: ks => .cons (dt_key k) (dts_keys ks)
theorem keys_no {ks : List L2.Key} (h : ks ≠ []) : isCells (ks.map keyD) = false := by
  cases ks with
  | nil => exact absurd rfl h
  | cons k ks => cases k <;> rfl
theorem dt_keyT {K : PySem.W.Frag} {H : Hp} {a : Addr} {ks : List L2.Key} (h : ks ≠ []) (e : H a = some (.tup (ks.map kV))) : DT K H (.ref a) (keyDs ks) :=
  .tup ⟨fun q => (by rw [keys_no h] at q; cases q), fun _ => e⟩ (dts_keys ks)
theorem dts_kt {K : PySem.W.Frag} {H : Hp} : ∀ {kvs : List (List L2.Key × V)} {xs : List (List L2.Key × Addr × Value)}, KT H kvs xs → (∀ p ∈ kvs, p.1 ≠ []) → DTs K H (xs.map fun x => V.ref x.2.1) (kvs.map fun p => keyDs p.1)
  | _, _, .nil, _ => .nil
  | _, _, .cons h t, n => .cons (dt_keyT (n _ List.mem_cons_self) h.2.1) (dts_kt t fun p hp => n p (List.mem_cons_of_mem _ hp))
theorem cr_sortedKeysT (hc : X.calm = true) : CallR X (.builtin "sorted") (fun xs H Q => ∃ d kvs, xs = [.ref d] ∧ H d = some (.dT kvs) ∧ (∀ p ∈ kvs, p.1 ≠ []) ∧ SrtD X.A.units (kvs.map fun p => keyDs p.1) ∧ ∀ p ws, H p = none → DTs X.K H ws (srtD (kvs.map fun p => keyDs p.1)) → Q (.ref p) (upd H p (.lst ws))) := by
  intro pins s σ H xs us Q I r h
  obtain ⟨d, kvs, rfl, hd, hne, S, q⟩ := h
  obtain ⟨u, rfl, rx⟩ := vals1 r
  cases rx
  obtain ⟨z, hs, ks, pr, o, es, ep, ho, hx, hdt, he, hn⟩ := (show ObjOk X.prog X.w H s.heap d (.dT kvs) from I.hok d _ hd)
  have l1 : es.size = ks.length := size_of_entries he
  have l2 : kvs.length = ks.length := Paired.length pr
  have dd : DTs X.K H (ks.map fun x => V.ref x.2.1) (kvs.map fun p => keyDs p.1) := dts_kt pr hne
  have rv : Vals (ks.map fun x => V.ref x.2.1) (ks.map fun x => Value.ref x.2.1) := by
    have e := vals_refs (ks.map fun x => x.2.1)
    rw [List.map_map, List.map_map] at e
    exact e
  have hh : X.A.in1.handled = none := I.ok.hd hc
  refine sort_core I (φ := fun h' ws bs => ws = (ks.map fun x => Value.ref x.2.1) ∧ bs = (ks.map fun x => V.ref x.2.1).zip (kvs.map fun p => keyDs p.1)) (fun {R} k => ?_) (fun h' ws bs hk hp => ?_) fun h' hF tk ws bs hk hp kF hn I' => ?_
  · refine kdu_collect (kdl_raw hs hx hdt) hh ho (by omega) fun h' tk acc' kp it => ?_
    have ea : acc'.toList = ks.map fun x => Value.ref x.2.1 := by
      have hl : acc'.toList.length = ks.length := by rw [Array.length_toList, it.1]; exact l1
      apply List.ext_getElem?
      intro j
      rw [List.getElem?_map]
      cases hj : acc'.toList[j]? with
      | none =>
        have h1 := List.getElem?_eq_none_iff.mp hj
        rw [List.getElem?_eq_none (by omega)]
        all_goals rfl
      | some v =>
        obtain ⟨en, hen, hv⟩ := it.2 j v (by rw [← Array.getElem?_toList]; exact hj)
        have qe := entry_at he j
        rw [hen] at qe
        cases hb : ks[j]? with
        | none =>
          rw [hb] at qe
          exact nomatch (show some en = none from qe)
        | some b =>
          rw [hb] at qe
          have e2 : en = entryOfKey (tupleKind (mixKind X.prog X.w)) b := Option.some.inj qe
          rw [hv, e2]
          all_goals rfl
    exact k h' tk _ _ kp ⟨ea, rfl⟩
  · obtain ⟨rfl, rfl⟩ := hp
    exact srt_of I dd rv (by rw [List.length_map]; omega) S hk
  · obtain ⟨rfl, rfl⟩ := hp
    refine ⟨.ref h'.objs.size, _, I', rfl, q _ _ hn ?_⟩
    have w := sortB_dts (dts_zip dd).1
    rwa [(dts_zip dd).2] at w
/-! ### a dict's items -/
def itemD (kv : L2.Key × PyData) : PyData := .tuple [keyD kv.1, kv.2]
/-- d.items() -/
theorem mt_itemsK : MtR X "dict.items" (fun x xs H Q => ∃ a kvs, x = .ref a ∧ xs = [] ∧ H a = some (.dK kvs) ∧ ∀ p, H p = none → Q (.ref p) (upd H p (L2.DX.itemsO p a))) := by
  intro pins s σ H x xs v us Q I rx rxs h
  obtain ⟨a, kvs, rfl, rfl, ha, q⟩ := h
  cases rx
  cases rxs
  obtain ⟨z, hd, vs, rel, o, es, ep, ho, hx, hdat, _⟩ := dk_of I.hok ha
  refine DT.callItems (es := es) (ep := ep) hd ⟨o, ho, hx, hdat⟩ ?_
  have hf : H s.heap.objs.size = none := I.hok.fresh (Nat.le_refl _)
  exact ⟨.ref s.heap.objs.size, upd H s.heap.objs.size (L2.DX.itemsO s.heap.objs.size a), I.laid (t' := s.toks) (fun b u e => Heap.get?_push_of_some _ e) (Nat.le_refl _) (L2.DX.itemsO_ok (Heap.get?_push_size _ rfl)), rfl, q _ hf⟩
theorem dts_of_ix {K : PySem.W.Frag} {H : Hp} : ∀ {vs : List V} {ds : List PyData}, vs.length = ds.length → (∀ (j : Nat) (v : V) (d : PyData), vs[j]? = some v → ds[j]? = some d → DT K H v d) → DTs K H vs ds
  | [], [], _, _ => .nil
  | [], _ :: _, h, _ => by simp at h
  | _ :: _, [], h, _ => by simp at h
  | v :: vs, d :: ds, h, f => .cons (f 0 v d rfl rfl) (dts_of_ix (by simpa using h) fun j w e h1 h2 => f (j + 1) w e (by simpa using h1) (by simpa using h2))
def itemI (p : L2.Key × Int) : PyData := .tuple [keyD p.1, .int p.2]
theorem dt_pair {K : PySem.W.Frag} {H : Hp} {a : Addr} {p : L2.Key × Int} (e : H a = some (.tup [kV p.1, .int p.2])) : DT K H (.ref a) (itemI p) :=
  .tup ⟨fun q => (by
    have z : isCell (keyD p.1) = false := by cases p.1 <;> rfl
    simp [isCells, z] at q), fun _ => e⟩ (.cons (dt_key _) (.cons (.int _) .nil))
theorem pairs_tracked (I : Inv X pins σ H s) {cs : List (L2.Key × Int)} {vs : List (L2.Key × Value)} (rel : KV (cs.map fun p => (p.1, V.int p.2)) vs) {h' : Heap} {tk : Nat} {as : List Addr} {H1 : Hp} (hl : as.length = vs.length) (g : KdxG (mixKind X.prog X.w) vs s.heap.objs.size h' as)
    {hF : Heap} (kF : ∀ b o, h'.get? b = some o → hF.get? b = some o) (I1 : Inv X pins σ H1 { s with heap := hF, toks := tk }) (hn : ∀ a ∈ as, H1 a = none) :
    ∃ H2, Inv X pins σ H2 { s with heap := hF, toks := tk } ∧ Ex H1 H2 ∧ DTs X.K H2 (as.map V.ref) (cs.map itemI) := by
  have l1 : cs.length = vs.length := by have := Paired.length rel; rwa [List.length_map] at this
  have pr : ∀ (j : Nat) (b : Addr), as[j]? = some b → ∃ (c : L2.Key × Int) (key x : Value), cs[j]? = some c ∧ RelV (kV c.1) key ∧ RelV (V.int c.2) x ∧ h'.get? b = some { cls := .type "tuple", data := .seq #[key, x] } := by
    intro j b hj
    obtain ⟨key, k, x, h1, h2, h3⟩ := g.pairs j b hj
    obtain ⟨y, e1, e2, e3⟩ := L2.DX.pget rel h1
    rw [List.getElem?_map] at e1
    cases hc : cs[j]? with
    | none => rw [hc] at e1; cases e1
    | some c =>
      rw [hc] at e1
      cases e1
      refine ⟨c, key, x, rfl, ?_, e3, h3⟩
      have e2 : c.1 = k := e2
      rw [e2]
      exact keyIs_rel h2
  obtain ⟨H2, I2, x2, q⟩ := L2.DX.takeT (P := fun a ws => ∃ (j : Nat) (c : L2.Key × Int), as[j]? = some a ∧ cs[j]? = some c ∧ ws = [kV c.1, V.int c.2]) I as H1 I1 (List.Pairwise.imp (fun h => Nat.ne_of_lt h) g.rise) fun a ha => by
    obtain ⟨j, hj⟩ := List.mem_iff_getElem?.mp ha
    obtain ⟨c, key, x, hc, r1, r2, ht⟩ := pr j a hj
    exact ⟨Nat.le_of_lt (g.above a ha), hn a ha, _, ⟨j, c, hj, hc, rfl⟩, fun H2 => ⟨by show 2 ≤ sizeLine; decide, [key, x], .cons r1 (.cons r2 .nil), ⟨_, kF _ _ ht, rfl, _, rfl⟩⟩⟩
  refine ⟨H2, I2, fun a o e => x2 a o e, dts_of_ix (by rw [List.length_map, List.length_map]; omega) fun j v d h1 h2 => ?_⟩
  rw [List.getElem?_map] at h1 h2
  cases ha : as[j]? with
  | none => rw [ha] at h1; cases h1
  | some a =>
    cases hc : cs[j]? with
    | none => rw [hc] at h2; cases h2
    | some c =>
      rw [ha] at h1
      rw [hc] at h2
      cases h1
      cases h2
      obtain ⟨ws, ⟨i, c', e1, e2, e3⟩, e4⟩ := q a (List.mem_of_getElem? ha)
      have nd : as.Nodup := List.Pairwise.imp (fun h => Nat.ne_of_lt h) g.rise
      have ij : i = j := (List.getElem?_inj (List.getElem?_eq_some_iff.mp e1).1 nd).mp (e1.trans ha.symm)
      subst ij
      cases hc.symm.trans e2
      subst e3
      exact dt_pair e4
theorem cr_sortedItemsK (hc : X.calm = true) : CallR X (.builtin "sorted") (fun xs H Q => ∃ (v d : Addr) (cs : List (L2.Key × Int)), xs = [.ref v] ∧ H v = some (L2.DX.itemsO v d) ∧ H d = some (.dK (cs.map fun p => (p.1, V.int p.2))) ∧ SrtD X.A.units (cs.map itemI) ∧
    ∀ H' p ws, Ex H H' → H p = none → H' p = some (.lst ws) → DTs X.K H' ws (srtD (cs.map itemI)) → Q (.ref p) H') := by
  intro pins s σ H xs us Q I r h
  obtain ⟨v, d, cs, rfl, hv, hd, S, q⟩ := h
  obtain ⟨u, rfl, rx⟩ := vals1 r
  cases rx
  have view : s.heap.IsItemsView v d := (show ObjOk X.prog X.w H s.heap v (L2.DX.itemsO v d) from I.hok v _ hv).1
  obtain ⟨z, lo, vs, rel, dd⟩ := dk_of I.hok hd
  obtain ⟨ep, hat⟩ := dd.dictAt
  have l1 : cs.length = vs.length := by have := Paired.length rel; rwa [List.length_map] at this
  rw [List.length_map] at z
  have hh : X.A.in1.handled = none := I.ok.hd hc
  have new : ∀ {h' : Heap} {as : List Addr}, KdxG (mixKind X.prog X.w) vs s.heap.objs.size h' as → ∀ a ∈ as, H a = none := fun g a ha => I.hok.fresh (Nat.le_of_lt (g.above a ha))
  refine sort_core I (φ := fun h' ws bs => ∃ as : List Addr, as.length = vs.length ∧ KdxG (mixKind X.prog X.w) vs s.heap.objs.size h' as ∧ ws = as.map Value.ref ∧ bs = (as.map V.ref).zip (cs.map itemI)) (fun {R} k => ?_) (fun h' ws bs hk hp => ?_) fun h' hF tk ws bs hk hp kF hn I' => ?_
  · exact kdx_collect (knd := mixKind X.prog X.w) hh view hat (by omega) fun h' tk as hk hl hG => k h' tk _ _ hk ⟨as, hl, hG, rfl, rfl⟩
  · obtain ⟨as, hl, g, rfl, rfl⟩ := hp
    obtain ⟨H2, I2, x2, dts⟩ := pairs_tracked (tk := s.toks) I rel hl g (fun b o e => e) (I.kept (t' := s.toks) hk) (new g)
    exact srt_of I2 dts (vals_refs as) (by rw [List.length_map]; omega) S fun b o e => e
  · obtain ⟨as, hl, g, rfl, rfl⟩ := hp
    have hnp : ∀ a ∈ as, a ≠ h'.objs.size := fun a ha => Nat.ne_of_lt (g.there ha)
    obtain ⟨H2, I2, x2, dts⟩ := pairs_tracked I rel hl g kF I' (fun a ha => by rw [upd_ne (hnp a ha)]; exact new g a ha)
    refine ⟨.ref h'.objs.size, H2, I2, rfl, q H2 _ _ ((Ex.up hn).tr x2) hn (x2 _ _ upd_same) ?_⟩
    have w := sortB_dts (dts_zip dts).1
    rwa [(dts_zip dts).2] at w
end
end TC
set_option Elab.async false
set_option linter.all false
set_option maxRecDepth 100000
set_option maxHeartbeats 4000000
/-! The house: its dicts as worlds, sorted(..), closed. -/
namespace TC
open PySem L2
open PySem.W (AllAlike Sortable dataLe)
/-! ### data that may be sorted -/
theorem srt_cells {u : Nat} (hu : u + 64 < cLine) (cs : List (Str × Nat)) : SrtD u (cs.map eCell) := by
  refine ⟨fun d hd d' hd' => ?_, .inl fun d hd => ?_, fun d hd => ?_⟩
  · obtain ⟨a, _, rfl⟩ := List.mem_map.mp hd
    obtain ⟨b, _, rfl⟩ := List.mem_map.mp hd'
    simp [eCell, dI, PySem.W.alike, PySem.W.alikeAll]
  · obtain ⟨a, _, rfl⟩ := List.mem_map.mp hd
    exact ⟨_, _, rfl⟩
  · obtain ⟨a, _, rfl⟩ := List.mem_map.mp hd
    simp [eCell, dI, PyData.depth, PyData.depthAll]
    omega
theorem srt_pairs {u : Nat} (hu : u + 64 < cLine) (rs : List Row) : SrtD u (rs.map fun r => ePair (place r)) := by
  refine ⟨fun d hd d' hd' => ?_, .inl fun d hd => ?_, fun d hd => ?_⟩
  · obtain ⟨a, _, rfl⟩ := List.mem_map.mp hd
    obtain ⟨b, _, rfl⟩ := List.mem_map.mp hd'
    simp [ePair, dI, PySem.W.alike, PySem.W.alikeAll]
  · obtain ⟨a, _, rfl⟩ := List.mem_map.mp hd
    exact ⟨_, _, rfl⟩
  · obtain ⟨a, _, rfl⟩ := List.mem_map.mp hd
    simp [ePair, dI, PyData.depth, PyData.depthAll]
    omega
theorem srt_waits {u : Nat} (hu : u + 64 < cLine) (ws : List Wait) : SrtD u (ws.map eWait) := by
  refine ⟨fun d hd d' hd' => ?_, .inl fun d hd => ?_, fun d hd => ?_⟩
  · obtain ⟨a, _, rfl⟩ := List.mem_map.mp hd
    obtain ⟨b, _, rfl⟩ := List.mem_map.mp hd'
    simp [eWait, dI, PySem.W.alike, PySem.W.alikeAll]
  · obtain ⟨a, _, rfl⟩ := List.mem_map.mp hd
    exact ⟨_, _, rfl⟩
  · obtain ⟨a, _, rfl⟩ := List.mem_map.mp hd
    simp [eWait, dI, PyData.depth, PyData.depthAll]
    omega
theorem srtD_map {α : Type} (f : α → PyData) (xs : List α) : srtD (xs.map f) = (xs.mergeSort (dataLe false f)).map f := (List.map_mergeSort (f := f) (r := dataLe false f) (s := dataLe false id) fun _ _ _ _ => rfl).symm
/-! ### the worlds -/
def cellsK (cs : List (Str × Nat)) : List (L2.Key × V) := cs.map fun p => (.inr p.1, .int (p.2 : Int))
/-- a dict of cells at a -/
def CW (a : Addr) (cs : List (Str × Nat)) : Wld where
  F := fun b => b = a
  ok := fun H => H a = some (.dK (cellsK cs))
  dom := fun H b h e => by subst e; exact ⟨_, h⟩
  stay := fun H H' h k _ => by rw [k a rfl]; exact h
/-- a list of data at a -/
def LW (K : PySem.W.Frag) (a : Addr) (ds : List PyData) : Wld where
  F := fun b => b = a
  ok := fun H => ∃ vs, H a = some (.lst vs) ∧ DTs K H vs ds
  dom := fun H b h e => by subst e; exact ⟨_, h.choose_spec.1⟩
  stay := fun H H' h k t => by
    obtain ⟨vs, h1, h2⟩ := h
    exact ⟨vs, by rw [k a rfl]; exact h1, h2.te t⟩
def rowL (r : Row) : List PyData := [dI r.next, dI r.floor, .tuple (r.answers.map eAns), .tuple (r.waiting.map eWait)]
def keyR (r : Row) : List L2.Key := [.inl r.c, .inl r.g]
def entG (e : Row × Addr) : List L2.Key × V := (keyR e.1, .ref e.2)
/-- the dict of the rows at a, each row a list -/
def GW (K : PySem.W.Frag) (a : Addr) (es : List (Row × Addr)) : Wld where
  F := fun b => b = a ∨ ∃ e ∈ es, b = e.2
  ok := fun H => H a = some (.dT (es.map entG)) ∧ ∀ e ∈ es, ∃ vs, H e.2 = some (.lst vs) ∧ DTs K H vs (rowL e.1)
  dom := fun H b h e => by
    rcases e with rfl | ⟨e, he, rfl⟩
    · exact ⟨_, h.1⟩
    · obtain ⟨vs, h1, _⟩ := h.2 e he
      exact ⟨_, h1⟩
  stay := fun H H' h k t => ⟨by rw [k a (.inl rfl)]; exact h.1, fun e he => by
    obtain ⟨vs, h1, h2⟩ := h.2 e he
    exact ⟨vs, by rw [k e.2 (.inr ⟨e, he, rfl⟩)]; exact h1, h2.te t⟩⟩
theorem bt_sorted : bootBuiltins "sorted" = some (.builtin "sorted") := by decide +kernel
section
variable {X : Cx} {ρ : List Sl} {a b c e o : Expr} {es : List Expr} {pos p2 p apos cpos : Pos}
/-- sorted(d.items()) -/
theorem ev_sortedItems {t : Addr} {cs : List (Str × Nat)} (hc : X.calm = true) (hu : X.A.units + 64 < cLine) (hm : X.mg "sorted" = none) (ho : EV X ρ o (.r (.ref t))) (hf : HF X ρ fun H => H t = some (.dK (cellsK cs))) (hg : Gl X "sorted" := by rfl)
    (hbase : attributeBase o "items" X.env (eval o X.env) = eval o X.env := by rfl) (hline : (apos.endLine == cpos.line) = true := by rfl)
    (he : starEach [.Call (.Attribute o "items" apos) [] [] cpos] X.env = (false, eval (.Call (.Attribute o "items" apos) [] [] cpos) X.env) :: starEach [] X.env := by rfl) (hpl : (backTo pos (starEach [] X.env)).any (·.1) = false := by rfl) :
    EV X ρ (.Call (.Name "sorted" p) [.Call (.Attribute o "items" apos) [] [] cpos] [] pos) (.l ((sortC cs).map eCell)) := fun σ H ev Q q =>
  wE_of (pe_callB (cr_sortedItemsK hc) hg hm bt_sorted (pa_cons (pe_bm0 PySem.F.plainAttrs_dict PySem.F.slot_dict_items PySem.F.type_dict_items mt_itemsK pe_w hbase hline) pa_nil he) (by decide) (by decide) he hpl) (ho σ H ev _ fun v H1 e1 o1 => by
    cases (show v = .ref t from o1)
    have h1 := hf σ H1 (ev.ex e1)
    refine ⟨.inr (.inr (.inl ⟨rfl, .inl ⟨_, h1⟩⟩)), t, _, rfl, rfl, h1, fun p hp => ?_⟩
    have hpt : t ≠ p := ne_of_none h1 hp
    have e0 : (cs.map fun p => ((.inr p.1 : L2.Key), (p.2 : Int))).map itemI = cs.map eCell := by rw [List.map_map]; rfl
    refine ⟨p, t, cs.map fun p => (.inr p.1, (p.2 : Int)), rfl, upd_same, ?_, ?_, fun H' p' ws x hn hl d => ?_⟩
    · rw [upd_ne hpt, List.map_map]; exact h1
    · rw [e0]; exact srt_cells hu cs
    · rw [e0, srtD_map] at d
      have x2 := (Ex.up (o := L2.DX.itemsO p t) hp).tr x
      exact q _ H' (e1.tr x2) ⟨p', ws, rfl, (e1.tr (Ex.up (o := L2.DX.itemsO p t) hp)).back hn, hl, d⟩)
/-- a tuple key's own address -/
theorem DT.key_at {K : PySem.W.Frag} {H : Hp} {v : V} {ks : List L2.Key} (hn : ks ≠ []) (h : DT K H v (keyDs ks)) : ∃ b, v = .ref b ∧ H b = some (.tup (ks.map kV)) := by
  obtain ⟨b, xs, rfl, s, r⟩ := h.of_tup
  refine ⟨b, rfl, ?_⟩
  have e : xs = ks.map kV := by
    clear s hn h
    induction ks generalizing xs with
    | nil => cases r; rfl
    | cons k ks ih =>
      cases r with
      | cons a t =>
        rw [List.map_cons, ih _ t]
        congr 1
        cases k with
        | inl i => exact a.of_int
        | inr x => exact a.of_str
  rw [← e]
  exact s.2 (keys_no hn)
/-- d[k], k a tuple: a list of data -/
theorem er_dgetT {t : Addr} {ks : List L2.Key} {ds : List PyData} (hu : X.A.units + 1 < cLine) (hn : ks ≠ []) (ho : EV X ρ o (.r (.ref t))) (hk : ED X ρ e (keyDs ks)) (hf : HF X ρ fun H => ∃ kvs r vs, H t = some (.dT kvs) ∧ valV kvs ks = some (.ref r) ∧ H r = some (.lst vs) ∧ DTs X.K H vs ds) (hs : NoSl e := by exact fun _ _ => rfl) : ER X ρ (.Subscript o e pos) ds := fun σ H ev Q q =>
  wE_of (pe_dget hu pe_w pe_w hs) (ho σ H ev _ fun v H1 e1 o1 => hk σ H1 (ev.ex e1) _ fun w H2 e2 o2 => by
    cases (show v = .ref t from o1)
    obtain ⟨kvs, r, vs, h1, h2, h3, h4⟩ := hf σ H2 (ev.ex (e1.tr e2))
    obtain ⟨b, rfl, hb⟩ := DT.key_at hn (show DT X.K H2 w (keyDs ks) from o2)
    exact ⟨t, .ref r, rfl, .inr ⟨kvs, ks, b, .inl h1, rfl, hb, h2.symm⟩, q r vs H2 (e1.tr e2) h3 h4⟩)
/-- sorted(d), keys tuples -/
theorem ev_sortedKeys {t : Addr} {kvs : List (List L2.Key × V)} (hc : X.calm = true) (hm : X.mg "sorted" = none) (ho : EV X ρ a (.r (.ref t))) (hf : HF X ρ fun H => H t = some (.dT kvs)) (hne : ∀ p ∈ kvs, p.1 ≠ []) (S : SrtD X.A.units (kvs.map fun p => keyDs p.1)) (hg : Gl X "sorted" := by rfl)
    (he : starEach [a] X.env = (false, eval a X.env) :: starEach [] X.env := by rfl) (hpl : (backTo pos (starEach [] X.env)).any (·.1) = false := by rfl) : EV X ρ (.Call (.Name "sorted" p) [a] [] pos) (.l (srtD (kvs.map fun p => keyDs p.1))) := fun σ H ev Q q =>
  wE_of (pe_callB (cr_sortedKeysT hc) hg hm bt_sorted (pa_cons pe_w pa_nil he) (by decide) (by decide) he hpl) (ho σ H ev _ fun v H1 e1 o1 => by
    cases (show v = .ref t from o1)
    exact ⟨t, kvs, rfl, hf σ H1 (ev.ex e1), hne, S, fun p ws hp d => q _ _ (e1.tr (Ex.up hp)) ⟨p, ws, rfl, e1.back hp, upd_same, d.te (Ex.up hp).te⟩⟩)
/-- sorted(t), t a tuple -/
theorem ev_sortedTup {ds : List PyData} (hm : X.mg "sorted" = none) (ha : ED X ρ a (.tuple ds)) (S : SrtD X.A.units ds) (hg : Gl X "sorted" := by rfl)
    (he : starEach [a] X.env = (false, eval a X.env) :: starEach [] X.env := by rfl) (hpl : (backTo pos (starEach [] X.env)).any (·.1) = false := by rfl) : EV X ρ (.Call (.Name "sorted" p) [a] [] pos) (.l (srtD ds)) := fun σ H ev Q q =>
  wE_of (pe_callB cr_sortedTup hg hm bt_sorted (pa_cons pe_w pa_nil he) (by decide) (by decide) he hpl) (ha σ H ev _ fun v H1 e1 o1 => by
    obtain ⟨t, xs, rfl, s, r⟩ := (show DT X.K H1 v (.tuple ds) from o1).of_tup
    exact ⟨t, xs, ds, rfl, s.sq, r, S, fun p ws hp d => q _ _ (e1.tr (Ex.up hp)) ⟨p, ws, rfl, e1.back hp, upd_same, d.te (Ex.up hp).te⟩⟩)
end
theorem keyDs_row (r : Row) : keyDs (keyR r) = ePair (place r) := rfl
theorem valV_G {es : List (Row × Addr)} (nd : (es.map fun e => place e.1).Nodup) {e : Row × Addr} (h : e ∈ es) : valV (es.map entG) (keyR e.1) = some (.ref e.2) := by
  induction es with
  | nil => cases h
  | cons x r ih =>
    rw [List.map_cons, List.nodup_cons] at nd
    rcases List.mem_cons.mp h with rfl | h
    · exact valV_pos rfl
    · rw [List.map_cons, valV_neg, ih nd.2 h]
      intro q
      have q : keyR x.1 = keyR e.1 := q
      simp only [keyR, List.cons.injEq, Sum.inl.injEq, and_true] at q
      obtain ⟨q1, q2⟩ := q
      exact nd.1 (List.mem_map.mpr ⟨e, h, Prod.ext (by show e.1.c = x.1.c; omega) (by show e.1.g = x.1.g; omega)⟩)
end TC
set_option Elab.async false
set_option linter.all false
set_option maxRecDepth 100000
set_option maxHeartbeats 4000000
/-! Worlds, part 2: defs that change the world of their first argument; expressions that change worlds. -/
namespace TC
open PySem L2
noncomputable def Less (H : Hp) (F : Addr → Prop) : Hp := fun a => @ite _ (F a) (Classical.propDecidable _) none (H a)
theorem less_at {H : Hp} {F : Addr → Prop} {a : Addr} {o : HO} (h : Less H F a = some o) : H a = some o ∧ ¬ F a := by
  unfold Less at h
  split at h
  · cases h
  · rename_i q; exact ⟨h, q⟩
theorem less_in {H : Hp} {F : Addr → Prop} {a : Addr} (h : F a) : Less H F a = none := by unfold Less; rw [if_pos h]
theorem less_off {H : Hp} {F : Addr → Prop} {a : Addr} (h : ¬ F a) : Less H F a = H a := by unfold Less; rw [if_neg h]
theorem less_ex (H : Hp) (F : Addr → Prop) : Ex (Less H F) H := fun a o h => (less_at h).1
/-- a slot apart from W -/
def Apart (W : Wld) : Sl → Prop
  | .no => True
  | .d _ => True
  | .r _ => True
  | .b _ W' => ∀ a, W'.F a → ¬ W.F a
  | _ => False
/-- a def whose first argument is the way into a world, which it changes -/
def MSp (K : PySem.W.Frag) (R : List Sl → (Sl → Wld → Prop) → Prop) : Sp := fun vs H Q _ => ∃ v W xs P, SlsOk K H vs (.w v W :: xs) ∧ (∀ x ∈ xs, Apart W x) ∧ R (.w v W :: xs) P ∧
  ∀ u H' x W', (∀ a o, H a = some o → ¬ W.F a → H' a = some o) → Tk H H' → W'.ok H' → (∀ a, W'.F a → W.F a ∨ H a = none) → RvOk K (Less H W.F) H' u x → P x W' → Q u H'
theorem start_envM {K : PySem.W.Frag} {H : Hp} {N : List Str} {vs : List V} {v : V} {W : Wld} {xs : List Sl} (h : SlsOk K H vs (.w v W :: xs)) (ap : ∀ x ∈ xs, Apart W x) (hl : xs.length + 1 ≤ N.length) :
    EnvB K (Less H W.F) (fun _ => False) H (L2.start N vs) (.w v W :: xs ++ List.replicate (N.length - (xs.length + 1)) .no) := by
  have at_ : ∀ {i : Nat} {x : Sl}, (Sl.w v W :: xs ++ List.replicate (N.length - (xs.length + 1)) .no)[i]? = some x → ((Sl.w v W :: xs)[i]? = some x ∧ ∃ u, (L2.start N vs)[i]? = some (some u) ∧ SlOk K H (some (some u)) x) ∨ x = .no := fun {i x} e => by
    by_cases hi : i < xs.length + 1
    · rw [List.getElem?_append_left (by simpa using hi)] at e
      obtain ⟨u, h1, h2⟩ := h.at_ e
      refine .inl ⟨e, u, ?_, h2⟩
      unfold L2.start
      have hv : i < vs.length := (List.getElem?_eq_some_iff.mp h1).1
      rw [List.getElem?_append_left (by simpa using hv), List.getElem?_map, h1]
      rfl
    · rw [List.getElem?_append_right (by simpa using hi)] at e
      obtain ⟨e1, e2⟩ := List.getElem?_eq_some_iff.mp e
      rw [List.getElem_replicate] at e2
      exact .inr e2.symm
  have only : ∀ {i : Nat} {x : Sl} {a : Addr}, (Sl.w v W :: xs ++ List.replicate (N.length - (xs.length + 1)) .no)[i]? = some x → Ft (L2.start N vs) i x a → i = 0 ∧ x = .w v W := fun {i x a} e f => by
    rcases at_ e with ⟨e1, u, e2, e3⟩ | rfl
    · cases i with
      | zero => exact ⟨rfl, by simpa using e1.symm⟩
      | succ i =>
        have m := ap x (List.mem_of_getElem? (by simpa using e1))
        cases x with
        | l ys => exact m.elim
        | w v' W' => exact m.elim
        | _ => exact f.elim
    · exact f.elim
  refine ⟨⟨by have := h.len; simp [L2.start] at this ⊢; omega, fun i x e => ?_⟩, less_ex H W.F, fun _ f => f.elim, fun i x a e f => ?_, fun i u W' a e f => ?_⟩
  · rcases at_ e with ⟨e1, u, e2, e3⟩ | rfl
    · rw [e2]; exact e3
    · exact trivial
  · obtain ⟨rfl, rfl⟩ := only e f
    refine ⟨less_in f, fun z => z, fun j y hj e2 f2 => ?_⟩
    exact hj (only e2 f2).1
  · rcases at_ e with ⟨e1, u', e2, e3⟩ | q
    · cases i with
      | zero => simp at e1
      | succ i =>
        have m := ap _ (List.mem_of_getElem? (by simpa using e1))
        obtain ⟨o, ho⟩ := W'.dom H a e3.2 f
        exact ⟨o, by rw [less_off (m a f)]; exact ho⟩
    · cases q
section
variable {P : Program} {w : World} {K : PySem.W.Frag} {mg : Str → Option Value} {base : Heap}
theorem cal_mut {g x : Str} {st : Stmt} {N ps : List Str} {k : Nat} {R : List Sl → (Sl → Wld → Prop) → Prop} (O : Own K mg g (defD x st) []) (S : FnScope N ps (defScope st)) (len : ∀ xs Q, R xs Q → xs.length = ps.length) (hn : ps.length ≤ N.length)
    (hb : ∀ (kV doc pm : Value) (an : Option Addr) (cdv ct : Value) (us : List Value), us.length = ps.length → bindArgs (PySem.W.fnOf x x (defArgs st) (defBody st) (defScope st) .none kV doc pm an cdv ct) ⟨us, []⟩ = pure (ps.zip us))
    (body : ∀ (f : Addr) (cdv : Value) (A : Around) (outer : List PySem.Env) (s : Shared) (H : Hp) (E : XK), Room k (A.deeper (PyProof.Rows.envOfC x (defScope st) s.heap.objs.size f cdv)) → ∀ v W xs Q, R (.w v W :: xs) Q →
      SJs (BX P w K mg base N x (defScope st) f cdv A outer s H E) (.w v W :: xs ++ List.replicate (N.length - (xs.length + 1)) .no) (defBody st) (fun ρ' => ∃ W', ρ'[0]? = some (.w v W') ∧ Q (.d .none) W') (fun y ρ' => ∃ W', ρ'[0]? = some (.w v W') ∧ Q y W')) : Cal P w K mg base (k + 1) g (MSp K R) [] := by
  obtain ⟨f, fd, F, m⟩ := O.it
  refine ⟨f, fd, ps, [], m, F.kp, F.ok (N := N) S (fun vs H Q E h => ?_) (fun cdv A outer s H vs Q E hr h => ?_), F.bindsN hb, .nil⟩
  · obtain ⟨v, W, xs, P', h1, _, h2, _⟩ := h
    rw [h1.len]
    exact len _ _ h2
  · obtain ⟨v, W, xs, P', h1, ap, h2, h3⟩ := h
    refine ⟨_, PSs.nox pss_w, ?_⟩
    have hl : xs.length + 1 ≤ N.length := by have := len _ _ h2; simp at this; omega
    have fin : ∀ {σ' : L2.St} {H' : Hp} {ρ' : List Sl} {W' : Wld}, EnvB K (Less H W.F) (fun _ => False) H' σ' ρ' → ρ'[0]? = some (.w v W') → (∀ a o, H a = some o → ¬ W.F a → H' a = some o) ∧ W'.ok H' ∧ ∀ a, W'.F a → W.F a ∨ H a = none := fun {σ' H' ρ' W'} ev e0 => by
      refine ⟨fun a o e nf => ev.ex a o (by rw [less_off nf]; exact e), (ev.env.sl 0 _ e0).2, fun a f => ?_⟩
      have z := (ev.own 0 _ a e0 f).1
      by_cases q : W.F a
      · exact .inl q
      · rw [less_off q] at z; exact .inr z
    refine body f cdv A outer s H E hr v W xs P' h2 (Less H W.F) (fun _ => False) _ H (start_envM h1 ap hl) _ (fun σ' H' ρ' ev t n => ?_) fun u H' x ρ' t o q => ?_
    · obtain ⟨W', e0, hp⟩ := n
      obtain ⟨f1, f2, f3⟩ := fin ev e0
      exact h3 .non H' (.d .none) W' f1 t f2 f3 .non hp
    · obtain ⟨W', e0, hp⟩ := q
      obtain ⟨⟨σ', ev⟩, rv⟩ := o
      obtain ⟨f1, f2, f3⟩ := fin ev e0
      exact h3 u H' x W' f1 t f2 f3 rv hp
end
/-! ### expressions that change worlds -/
def EW (X : Cx) (ρ : List Sl) (e : Expr) (R : PyData → List Sl → Prop) : Prop := ∀ B F σ H, EnvB X.K B F H σ ρ → ∀ Q : VK, (∀ v H' d ρ', EnvB X.K B F H' σ ρ' → Tk H H' → DT X.K H' v d → R d ρ' → Q v H') → wE X e σ H Q
section
variable {X : Cx} {ρ : List Sl} {a b c e o : Expr} {es : List Expr} {pos p2 p : Pos} {R : PyData → List Sl → Prop}
theorem ew_pure {d : PyData} (h : ED X ρ e d) (hr : R d ρ) : EW X ρ e R := fun B F σ H ev Q q => h σ H ev.env _ fun v H1 e1 o1 => q v H1 d ρ (ev.grow e1) e1.te o1 hr
/-- f(x, ..), x the way into the world of slot i -/
theorem ew_call (i : Nat) {k j : Nat} {x y : Str} {px : Pos} {G : List Sl → (Sl → Wld → Prop) → Prop} {P : Sl → Wld → Prop} {v : V} {W : Wld} {xs : List Sl} (cl : Cal X.prog X.w X.K X.mg X.base k x (MSp X.K G) []) (hr : Room j X.A) (h0 : ρ[i]? = some (.w v W)) (ha : AD X ρ (.Name y px :: es) (.r v :: xs)) (hxs : ∀ z ∈ xs, ∃ d, z = .d d) (h : G (.w v W :: xs) P)
    (hp : ∀ z W', P z W' → ∃ d, z = .d d ∧ R d (ρ.set i (.w v W'))) (hk : k ≤ j := by decide) (hg : Gl X x := by rfl)
    (hdb : (x == ("__debug__" : Str)) = false := by decide) (he : starEach (.Name y px :: es) X.env = (false, eval (.Name y px) X.env) :: starEach es X.env := by rfl) (hpl : (backTo pos (starEach es X.env)).any (·.1) = false := by rfl) : EW X ρ (.Call (.Name x p) (.Name y px :: es) [] pos) R := fun B F σ H ev Q q =>
  wE_of (pe_own cl hr hk hg pa_w hdb he hpl) (ha σ H ev.env _ fun vs H1 e1 o1 => by
    have ev1 := ev.grow e1
    have s1 : SlsOk X.K H1 vs (.w v W :: xs) := by
      cases o1 with
      | cons z zs => exact .cons ⟨congrArg (fun t => some (some t)) z, (ev1.env.sl i _ h0).2⟩ zs.sls
    refine ⟨v, W, xs, P, by rw [List.append_nil]; exact s1, fun z hz => by obtain ⟨d, rfl⟩ := hxs z hz; exact trivial, h, fun u H2 z W' f1 t f2 f3 rv hP => ?_⟩
    obtain ⟨d, rfl, hR⟩ := hp z W' hP
    exact q u H2 d _ (ev1.mutW h0 f1 t f2 f3) (e1.te.tr t) rv hR)
variable {st : Stmt} {rest : List Stmt} {N : List Sl → Prop} {RR : Sl → List Sl → Prop}
theorem sjs_setW (i : Nat) {x : Str} {pos' : Pos} (h : EW X ρ e R) (t : ∀ d ρ', R d ρ' → SJs X (ρ'.set i (.d d)) rest N RR) (hN : X.N.Nodup) (hi : X.N[i]? = some x := by rfl) (hx : Loc X.env.scope x := by first | exact Or.inl rfl | exact Or.inr rfl) (hs : swapsWith e (some (.Name x pos')) pos.line X.env = pure false := by rfl)
    (hf : X.fn x = true ∨ X.env.scope.names.lookup x = some .local := by first | exact .inl rfl | exact .inr rfl) : SJs X ρ (.Assign [.Name x pos'] e pos :: rest) N RR :=
  sjs_cons (M := fun ρ2 => ∃ d ρ', R d ρ' ∧ ρ2 = ρ'.set i (.d d)) (fun B F σ H ev D k r => wS_of (ps_set hN hi hx pe_w hs hf) (h B F σ H ev _ fun v H1 d ρ' ev1 t1 o1 hR => k _ H1 _ (ev1.put (x := .d d) (Ex.rf H1) o1) t1 ⟨d, ρ', hR, rfl⟩)) fun ρ2 m => by
    obtain ⟨d, ρ', hR, rfl⟩ := m
    exact t d ρ' hR
theorem sjs_retW (h : EW X ρ e R) (hr : ∀ d ρ', R d ρ' → RR (.d d) ρ') : SJs X ρ (.Return (some e) pos :: rest) N RR :=
  sjs_cons (M := fun _ => False) (fun B F σ H ev D k r => wS_of (ps_ret pe_w) (h B F σ H ev _ fun v H1 d ρ' ev1 t1 o1 hR => r v H1 (.d d) ρ' t1 ⟨⟨σ, ev1⟩, o1⟩ (hr d ρ' hR))) fun _ m => m.elim
end
end TC
set_option Elab.async false
set_option linter.all false
set_option maxRecDepth 100000
set_option maxHeartbeats 4000000
/-! The house, part 2: closed, forgotten, decided. -/
namespace TC
open PySem L2
open PySem.W (AllAlike Sortable dataLe)
theorem EV.eq {X : Cx} {ρ : List Sl} {e : Expr} {x y : Sl} (h : EV X ρ e x) (q : x = y) : EV X ρ e y := q ▸ h
noncomputable def rowOf (rs : List Row) (d : PyData) : PyData := match rs.find? (fun r => @decide (ePair (place r) = d) (Classical.propDecidable _)) with
  | some r => eRow r
  | none => .none
theorem ePair_inj {p q : Pair} (h : ePair p = ePair q) : p = q := by
  unfold ePair dI at h
  simp only [PyData.tuple.injEq, List.cons.injEq, PyData.int.injEq, and_true] at h
  exact Prod.ext (by omega) (by omega)
theorem rowOf_at {rs : List Row} (nd : (rs.map place).Nodup) {r : Row} (h : r ∈ rs) : rowOf rs (ePair (place r)) = eRow r := by
  induction rs with
  | nil => cases h
  | cons x rs ih =>
    rw [List.map_cons, List.nodup_cons] at nd
    unfold rowOf
    rw [List.find?_cons]
    rcases List.mem_cons.mp h with rfl | h
    · simp
    · have n : ¬ ePair (place x) = ePair (place r) := fun q => nd.1 (List.mem_map.mpr ⟨r, h, (ePair_inj q).symm⟩)
      simp only [n, decide_false]
      exact ih nd.2 h
section
variable {P : Program} {w : World} {K : PySem.W.Frag} {mg : Str → Option Value} {base : Heap}
theorem sc_closed : FnScope ["cells", "book", "groups", "rows", "place"] ["cells", "book", "groups"] (defScope (top 49)) := ⟨rfl, rfl, rfl, by decide +kernel, rfl, by decide +kernel, by decide +kernel⟩
def R_closed (K : PySem.W.Frag) (xs : List Sl) (d : PyData) : Prop := ∃ (c b g : Addr) (cs : List (Str × Nat)) (book : List (Key × Ans)) (es : List (Row × Addr)), xs = [.b (.ref c) (CW c cs), .b (.ref b) (LW K b (book.map eBook)), .b (.ref g) (GW K g es)] ∧ (es.map fun e => place e.1).Nodup ∧ es.length ≤ 1000000 ∧ d = eHouse ⟨sortC cs, book, sortR (es.map (·.1))⟩
theorem c_closed (T : Bl mg) (O : Own K mg "closed" (defD "closed" (top 49)) []) : Cal P w K mg base 1 "closed" (ASp K (R_closed K)) [] := by
  refine cal_args O sc_closed ?_ (by decide) (fun _ _ _ _ _ _ us hl => match us, hl with | [_, _, _], _ => rfl) ?_
  · rintro xs d ⟨c, b, g, cs, book, es, rfl, _⟩
    refine ⟨rfl, fun y hy => ?_⟩
    simp only [List.mem_cons, List.not_mem_nil, or_false] at hy
    rcases hy with rfl | rfl | rfl <;> exact trivial
  · rintro f cdv A outer s H E hr xs d ⟨c, b, g, cs, book, es, rfl, nd, hz, rfl⟩
    have h1 := sz
    have ndN := sc_closed.nd
    have hu := roomU64 hr
    have hu1 : (A.deeper (PyProof.Rows.envOfC "closed" (defScope (top 49)) s.heap.objs.size f cdv)).units + 1 < cLine := by omega
    have ndr : ((es.map (·.1)).map place).Nodup := by rw [List.map_map]; exact nd
    have hk : (es.map entG).map (fun p => keyDs p.1) = (es.map (·.1)).map fun r => ePair (place r) := by
      rw [List.map_map, List.map_map]; rfl
    have hs : srtD ((es.map entG).map fun p => keyDs p.1) = (sortR (es.map (·.1))).map fun r => ePair (place r) := by
      rw [hk, srtD_map]; rfl
    have hl : (sortR (es.map (·.1))).length = es.length := by unfold sortR; rw [List.length_mergeSort, List.length_map]
    have hne : ∀ p ∈ es.map entG, p.1 ≠ [] := fun p hp => by
      obtain ⟨e, _, rfl⟩ := List.mem_map.mp hp
      exact fun q => by cases q
    refine sjs_setLc 3 (lcj (own := [("place", 4)]) (rowOf (es.map (·.1))) (ds := (sortR (es.map (·.1))).map fun r => ePair (place r)) (ic_list (er_new (EV.eq (ev_sortedKeys (kvs := es.map entG) rfl T.sorted (ev_b 2) (fun σ H ev => (hf_b (W := GW K g es) 2 rfl σ H ev).1) hne (by rw [hk]; exact srt_pairs hu _)) (congrArg Sl.l hs)))) (by rw [List.length_map, hl]; omega) (fun d hd => ?_)) ?_ rfl ndN (blkOk_by (N := ["cells", "book", "groups", "rows", "place"]) (sc := defScope (top 49)) (by decide +kernel))
    · obtain ⟨r, hm, rfl⟩ := List.mem_map.mp hd
      have hm : r ∈ es.map (·.1) := (List.mergeSort_perm _ _).mem_iff.mp hm
      rw [rowOf_at ndr hm]
      obtain ⟨e, he, rfl⟩ := List.mem_map.mp hm
      refine ⟨[(4, ePair (place e.1))], fun _ _ _ _ _ => gd_name 4 ndN, own_by, fun _ _ _ _ _ => ?_⟩
      refine ed_cat (ed_tup (ad_consd (ed_var 4) ad_nild)) (ed_tupOf T.tuple (er_dgetT (t := g) (ks := keyR e.1) (ds := rowL e.1) hu1 (by intro q; cases q) (ev_b 2) (ed_var 4) (fun σ H ev => ?_))) (by show 5 ≤ sizeLine; omega)
      obtain ⟨h1, h2⟩ := hf_b (W := GW K g es) 2 rfl σ H ev
      obtain ⟨vs, h3, h4⟩ := h2 e he
      exact ⟨_, e.2, vs, h1, valV_G nd he, h3, h4⟩
    · refine sjs_ret (ed_is (ed_tup (ad_consd (ed_tupOf T.tuple (er_new (ev_sortedItems (t := c) (cs := cs) rfl hu T.sorted (ev_b 0) (hf_b (W := CW c cs) 0)))) (ad_consd (ed_tupOf T.tuple (er_lst (t := b) (ds := book.map eBook) (ev_b 1) (hf_b (W := LW K b (book.map eBook)) 1))) (ad_consd (ed_tupOf T.tuple (er_var 3)) ad_nild)))) ?_) rfl
      unfold eHouse
      have e : ((sortR (es.map (·.1))).map fun r => ePair (place r)).map (rowOf (es.map (·.1))) = (sortR (es.map (·.1))).map eRow := by
        rw [List.map_map]
        exact List.map_congr_left fun r hm => rowOf_at ndr ((List.mergeSort_perm _ _).mem_iff.mp hm)
      rw [e]
end
end TC
set_option Elab.async false
set_option linter.all false
set_option maxRecDepth 100000
set_option maxHeartbeats 4000000
/-! Worlds, part 3: results and arguments that are told by a property. -/
namespace TC
open PySem L2
/-- e gives something of Φ -/
def EX (X : Cx) (ρ : List Sl) (e : Expr) (Φ : Sl → Prop) : Prop := ∀ σ H, Env X.K H σ ρ → ∀ Q : VK, (∀ v H' x, Ex H H' → VOk X.K H H' v x → Φ x → Q v H') → wE X e σ H Q
/-- e gives something of Φ, to be lent -/
def EB (X : Cx) (ρ : List Sl) (e : Expr) (Φ : Sl → Prop) : Prop := ∀ σ H, Env X.K H σ ρ → ∀ Q : VK, (∀ v H' x, Ex H H' → SlOk X.K H' (some (some v)) x → Φ x → Q v H') → wE X e σ H Q
def AB (X : Cx) (ρ : List Sl) (es : List Expr) (P : List Sl → Prop) : Prop := ∀ σ H, Env X.K H σ ρ → ∀ Q : List V → Hp → Prop, (∀ vs H' xs, Ex H H' → SlsOk X.K H' vs xs → P xs → Q vs H') → wA X es σ H Q
theorem SlsOk.ex {K : PySem.W.Frag} {H H' : Hp} (e : Ex H H') : ∀ {vs : List V} {xs : List Sl}, SlsOk K H vs xs → SlsOk K H' vs xs
  | _, _, .nil => .nil
  | _, _, .cons h t => .cons (h.ex e) (SlsOk.ex e t)
/-- a def that gives something of Φ and changes nothing -/
def ASl (K : PySem.W.Frag) (R : List Sl → (Sl → Prop) → Prop) : Sp := fun vs H Q _ => ∃ xs Φ, SlsOk K H vs xs ∧ R xs Φ ∧ ∀ v H' x, Ex H H' → VOk K H H' v x → Φ x → Q v H'
theorem RvOk.vok {K : PySem.W.Frag} {H H' : Hp} {v : V} : ∀ {x : Sl}, RvOk K H H' v x → VOk K H H' v x
  | .no, _ => trivial
  | .d _, h => h
  | .l _, ⟨a, vs, h, q, r, n⟩ => ⟨a, vs, h, n, q, r⟩
  | .r _, h => h
  | .w _ _, h => h
section
variable {X : Cx} {ρ : List Sl} {a b c e o : Expr} {es : List Expr} {pos p2 p : Pos} {Φ Ψ : Sl → Prop} {P : List Sl → Prop}
theorem ex_ev {x : Sl} (h : EV X ρ e x) (hx : Φ x) : EX X ρ e Φ := fun σ H ev Q q => h σ H ev _ fun v H1 e1 o1 => q v H1 x e1 o1 hx
theorem eb_d {d : PyData} (h : ED X ρ e d) : EB X ρ e (· = .d d) := fun σ H ev Q q => h σ H ev _ fun v H1 e1 o1 => q v H1 (.d d) e1 ⟨v, rfl, o1⟩ rfl
theorem eb_b {v : V} {W : Wld} (h : EV X ρ e (.r v)) (hf : HF X ρ W.ok) : EB X ρ e (· = .b v W) := fun σ H ev Q q => h σ H ev _ fun u H1 e1 o1 => by
  have o1 : u = v := o1
  subst o1
  exact q _ H1 (.b _ W) e1 ⟨rfl, hf σ H1 (ev.ex e1)⟩ rfl
/-- a list of data lent -/
theorem eb_l {ds : List PyData} (h : ER X ρ e ds) : EB X ρ e (fun x => ∃ a, x = .b (.ref a) (LW X.K a ds)) := fun σ H ev Q q => h σ H ev _ fun p vs H1 e1 h1 h2 => q (.ref p) H1 (.b (.ref p) (LW X.K p ds)) e1 ⟨rfl, vs, h1, h2⟩ ⟨p, rfl⟩
theorem EB.imp (h : EB X ρ e Φ) (i : ∀ x, Φ x → Ψ x) : EB X ρ e Ψ := fun σ H ev Q q => h σ H ev Q fun v H1 x e1 o1 hx => q v H1 x e1 o1 (i x hx)
theorem ab_nil : AB X ρ [] (· = []) := fun σ H ev Q q => wA_of pa_nil (q [] H [] (Ex.rf H) .nil rfl)
theorem ab_cons (h : EB X ρ e Φ) (t : AB X ρ es P) (hs : starEach (e :: es) X.env = (false, eval e X.env) :: starEach es X.env := by rfl) : AB X ρ (e :: es) (fun xs => ∃ y ys, xs = y :: ys ∧ Φ y ∧ P ys) := fun σ H ev Q q =>
  wA_of (pa_cons pe_w pa_w hs) (h σ H ev _ fun v H1 x e1 o1 hx => t σ H1 (ev.ex e1) _ fun vs H2 xs e2 o2 hp => q _ H2 (x :: xs) (e1.tr e2) (.cons (o1.ex e2) o2) ⟨x, xs, rfl, hx, hp⟩)
theorem ed_callB {k j : Nat} {x : Str} {R : List Sl → PyData → Prop} {d : PyData} (cl : Cal X.prog X.w X.K X.mg X.base k x (ASp X.K R) []) (hr : Room j X.A) (ha : AB X ρ (e :: es) P) (h : ∀ xs, P xs → R xs d) (hk : k ≤ j := by decide) (hg : Gl X x := by rfl)
    (hdb : (x == ("__debug__" : Str)) = false := by decide) (he : starEach (e :: es) X.env = (false, eval e X.env) :: starEach es X.env := by rfl) (hpl : (backTo pos (starEach es X.env)).any (·.1) = false := by rfl) : ED X ρ (.Call (.Name x p) (e :: es) [] pos) d := fun σ H ev Q q =>
  wE_of (pe_own cl hr hk hg pa_w hdb he hpl) (ha σ H ev _ fun vs H1 xs e1 o1 hp => ⟨xs, d, by rw [List.append_nil]; exact o1, h xs hp, fun v H2 e2 o2 => q v H2 (e1.tr e2) o2⟩)
theorem ex_callB {k j : Nat} {x : Str} {R : List Sl → (Sl → Prop) → Prop} (cl : Cal X.prog X.w X.K X.mg X.base k x (ASl X.K R) []) (hr : Room j X.A) (ha : AB X ρ (e :: es) P) (h : ∀ xs, P xs → R xs Φ) (hk : k ≤ j := by decide) (hg : Gl X x := by rfl)
    (hdb : (x == ("__debug__" : Str)) = false := by decide) (he : starEach (e :: es) X.env = (false, eval e X.env) :: starEach es X.env := by rfl) (hpl : (backTo pos (starEach es X.env)).any (·.1) = false := by rfl) : EX X ρ (.Call (.Name x p) (e :: es) [] pos) Φ := fun σ H ev Q q =>
  wE_of (pe_own cl hr hk hg pa_w hdb he hpl) (ha σ H ev _ fun vs H1 xs e1 o1 hp => ⟨xs, Φ, by rw [List.append_nil]; exact o1, h xs hp, fun v H2 y e2 o2 hy => q v H2 y (e1.tr e2) (o2.ex e1 (Ex.rf H2)) hy⟩)
variable {st : Stmt} {rest : List Stmt} {N : List Sl → Prop} {R : Sl → List Sl → Prop}
theorem sjs_setx (i : Nat) {x : Str} {pos' : Pos} (h : EX X ρ e Φ) (t : ∀ y, Φ y → SJs X (ρ.set i y) rest N R) (hN : X.N.Nodup) (hi : X.N[i]? = some x := by rfl) (hx : Loc X.env.scope x := by first | exact Or.inl rfl | exact Or.inr rfl) (hs : swapsWith e (some (.Name x pos')) pos.line X.env = pure false := by rfl)
    (hf : X.fn x = true ∨ X.env.scope.names.lookup x = some .local := by first | exact .inl rfl | exact .inr rfl) : SJs X ρ (.Assign [.Name x pos'] e pos :: rest) N R :=
  sjs_cons (M := fun ρ' => ∃ y, Φ y ∧ ρ' = ρ.set i y) (fun B F σ H ev D k r => wS_of (ps_set hN hi hx pe_w hs hf) (h σ H ev.env _ fun v H1 y e1 o1 hy => k _ H1 _ (ev.put e1 o1) e1.te ⟨y, hy, rfl⟩)) fun ρ' m => by
    obtain ⟨y, hy, rfl⟩ := m
    exact t y hy
theorem sjs_retX (h : EX X ρ e Φ) (hr : ∀ y, Φ y → R y ρ) : SJs X ρ (.Return (some e) pos :: rest) N R :=
  sjs_cons (M := fun _ => False) (fun B F σ H ev D k r => wS_of (ps_ret pe_w) (h σ H ev.env _ fun v H1 y e1 o1 hy => r v H1 y ρ e1.te ⟨⟨σ, ev.grow e1⟩, VOk.rv ev.ex o1⟩ (hr y hy))) fun _ m => m.elim
theorem sjs_par3x (i j l : Nat) {x y z : Str} {Φ1 Φ2 Φ3 : Sl → Prop} {px py pz pt : Pos} {kt k2 pt2} (ha : EX X ρ a Φ1) (hb : EX X ρ b Φ2) (hd : EX X ρ c Φ3) (t : ∀ u v w, Φ1 u → Φ2 v → Φ3 w → SJs X (((ρ.set i u).set j v).set l w) rest N R) (hc : X.calm = true) (hN : X.N.Nodup) (hi : X.N[i]? = some x := by rfl) (hj : X.N[j]? = some y := by rfl) (hl : X.N[l]? = some z := by rfl)
    (hij : i ≠ j := by decide) (hil : i ≠ l := by decide) (hjl : j ≠ l := by decide) (hx : X.env.scope.names.lookup x = some .local := by rfl) (hy : X.env.scope.names.lookup y = some .local := by rfl) (hz : X.env.scope.names.lookup z = some .local := by rfl)
    (he : starEach [a, b, c] X.env = (false, eval a X.env) :: starEach [b, c] X.env := by rfl) (he2 : starEach [b, c] X.env = (false, eval b X.env) :: starEach [c] X.env := by rfl) (he3 : starEach [c] X.env = (false, eval c X.env) :: starEach [] X.env := by rfl)
    (hw : swappedStores [.Tuple [.Name x px, .Name y py, .Name z pz] kt pt] (.Tuple [a, b, c] k2 pt2) X.env = pure (some [x, y, z]) := by rfl) (hs : swapsWithSole [.Tuple [.Name x px, .Name y py, .Name z pz] kt pt] (.Tuple [a, b, c] k2 pt2) pos.line X.env = pure false := by rfl) :
    SJs X ρ (.Assign [.Tuple [.Name x px, .Name y py, .Name z pz] kt pt] (.Tuple [a, b, c] k2 pt2) pos :: rest) N R :=
  sjs_cons (M := fun ρ' => ∃ u v w, Φ1 u ∧ Φ2 v ∧ Φ3 w ∧ ρ' = ((ρ.set i u).set j v).set l w) (fun B F σ H ev D k r => wS_of (ps_par3 hc hN hi hj hl hij hil hjl hx hy hz (pa_cons pe_w (pa_cons pe_w (pa_cons pe_w pa_nil he3) he2) he) hw hs)
    (ha σ H ev.env _ fun v1 H1 u e1 o1 h1 => hb σ H1 (ev.env.ex e1) _ fun v2 H2 v e2 o2 h2 => hd σ H2 (ev.env.ex (e1.tr e2)) _ fun v3 H3 w e3 o3 h3 =>
      ⟨v1, v2, v3, rfl, k _ H3 _ (((ev.put e1 o1).put e2 o2).put e3 o3) ((e1.tr e2).tr e3).te ⟨u, v, w, h1, h2, h3, rfl⟩⟩)) fun ρ' m => by
    obtain ⟨u, v, w, h1, h2, h3, rfl⟩ := m
    exact t u v w h1 h2 h3
end
section
variable {P : Program} {w : World} {K : PySem.W.Frag} {mg : Str → Option Value} {base : Heap}
theorem cal_argsX {g x : Str} {st : Stmt} {N ps : List Str} {k : Nat} {R : List Sl → (Sl → Prop) → Prop} (O : Own K mg g (defD x st) []) (S : FnScope N ps (defScope st)) (len : ∀ xs Φ, R xs Φ → xs.length = ps.length ∧ ∀ y ∈ xs, Pln y) (hn : ps.length ≤ N.length)
    (hb : ∀ (kV doc pm : Value) (an : Option Addr) (cdv ct : Value) (us : List Value), us.length = ps.length → bindArgs (PySem.W.fnOf x x (defArgs st) (defBody st) (defScope st) .none kV doc pm an cdv ct) ⟨us, []⟩ = pure (ps.zip us))
    (body : ∀ (f : Addr) (cdv : Value) (A : Around) (outer : List PySem.Env) (s : Shared) (H : Hp) (E : XK), Room k (A.deeper (PyProof.Rows.envOfC x (defScope st) s.heap.objs.size f cdv)) → ∀ xs Φ, R xs Φ →
      SJs (BX P w K mg base N x (defScope st) f cdv A outer s H E) (xs ++ List.replicate (N.length - xs.length) .no) (defBody st) (fun _ => Φ (.d .none)) (fun y _ => Φ y)) : Cal P w K mg base (k + 1) g (ASl K R) [] := by
  obtain ⟨f, fd, F, m⟩ := O.it
  refine ⟨f, fd, ps, [], m, F.kp, F.ok (N := N) S (fun vs H Q E h => ?_) (fun cdv A outer s H vs Q E hr h => ?_), F.bindsN hb, .nil⟩
  · obtain ⟨ds, Φ, h1, h2, _⟩ := h
    rw [h1.len]
    exact (len _ _ h2).1
  · obtain ⟨ds, Φ, h1, h2, h3⟩ := h
    refine ⟨_, PSs.nox pss_w, ?_⟩
    have hl : ds.length ≤ N.length := by rw [(len _ _ h2).1]; exact hn
    refine body f cdv A outer s H E hr ds Φ h2 H (fun _ => False) _ H (start_envA h1 (len _ _ h2).2 hl) _ (fun σ' H' ρ' e t n => ?_) fun v H' y ρ' t o q => ?_
    · have z := h3 .non H' (.d .none) e.ex .non n
      exact z
    · exact h3 v H' y (o.1.elim fun _ z => z.ex) o.2.vok q
end
end TC
set_option Elab.async false
set_option linter.all false
set_option maxRecDepth 100000
set_option maxHeartbeats 4000000
/-! The house, part 3: forgotten, decided, groups_of. -/
namespace TC
open PySem L2
section
variable {X : Cx} {ρ : List Sl} {a b c e o : Expr} {pos p apos cpos : Pos} {st : Stmt} {rest : List Stmt} {N : List Sl → Prop} {R : Sl → List Sl → Prop}
/-- x, y, .. = l, l a list of data -/
theorem sjs_unl {es : List Expr} {k : Nat} {ds : List PyData} {ps : List (Nat × PyData)} {n : Nat} {tpos : Pos} (hc : X.calm = true) (h : ER X ρ e ds) (g : GDs X es ds ps) (hl : ds.length = n) (t : SJs X (setsD ps ρ) rest N R) (hn : (assignEach es X.env).length = n := by rfl) (hst : (assignEach es X.env).findIdx? (·.1) = none := by rfl)
    (hs : swapsWithSole [.Tuple es k tpos] e pos.line X.env = pure false := by rfl) (hw : swappedStores [.Tuple es k tpos] e X.env = pure none := by rfl)
    (h1 : (assignEach [.Tuple es k tpos] X.env).map (·.2) = [assign (.Tuple es k tpos) X.env] := by rfl) : SJs X ρ (.Assign [.Tuple es k tpos] e pos :: rest) N R := by
  obtain ⟨tg, g1, g2⟩ := g
  exact sjs_cons (M := fun ρ' => ρ' = setsD ps ρ) (fun B F σ H ev D k r => wS_of (ps_asg pe_w (pg_unl hc g1 hn hst) hs hw h1) (h σ H ev.env _ fun p vs H1 e1 h1 h2 => ⟨p, vs, rfl, .of h1, by rw [h2.len]; exact hl, g2 σ H1 vs h2 _ fun us ok => k _ H1 _ (ok.envB (ev.grow e1)) e1.te rfl⟩)) fun ρ' m => by subst m; exact t
theorem ed_maxn {i j : Nat} (hm : X.mg "max" = none) (hc : X.calm = true) (ha : ED X ρ a (dI i)) (hb : ED X ρ b (dI j)) (hg : Gl X "max" := by rfl) (he : starEach [a, b] X.env = (false, eval a X.env) :: starEach [b] X.env := by rfl) (he2 : starEach [b] X.env = (false, eval b X.env) :: starEach [] X.env := by rfl)
    (hpl : (backTo pos (starEach [b] X.env)).any (·.1) = false := by rfl) : ED X ρ (.Call (.Name "max" p) [a, b] [] pos) (dI (max i j)) := ed_is (ed_max hm hc ha hb hg he he2 hpl) (congrArg PyData.int maxN)
end
section
variable {P : Program} {w : World} {K : PySem.W.Frag} {mg : Str → Option Value} {base : Heap}
theorem sc_forgotten : FnScope ["row", "heard", "behind", "floor", "answers", "waiting"] ["row", "heard"] (defScope (top 51)) := ⟨rfl, rfl, rfl, by decide +kernel, rfl, by decide +kernel, by decide +kernel⟩
def R_forgotten (K : PySem.W.Frag) (xs : List Sl) (Φ : Sl → Prop) : Prop := ∃ (t : Addr) (r : Row) (h : Nat), xs = [.b (.ref t) (LW K t (rowL r)), .d (dI h)] ∧ Φ (.l (rowL (forgot r h)))
theorem c_forgotten (T : Bl mg) (O : Own K mg "forgotten" (defD "forgotten" (top 51)) []) : Cal P w K mg base 1 "forgotten" (ASl K (R_forgotten K)) [] := by
  refine cal_argsX O sc_forgotten ?_ (by decide) (fun _ _ _ _ _ _ us hl => match us, hl with | [_, _], _ => rfl) ?_
  · rintro xs Φ ⟨t, r, h, rfl, _⟩
    refine ⟨rfl, fun y hy => ?_⟩
    simp only [List.mem_cons, List.not_mem_nil, or_false] at hy
    rcases hy with rfl | rfl <;> exact trivial
  · rintro f cdv A outer s H E hr xs Φ ⟨t, r, h, rfl, hΦ⟩
    have nd := sc_forgotten.nd
    refine sjs_unl (ds := rowL r) rfl (er_lst (t := t) (ev_b 0) (hf_b (W := LW K t (rowL r)) 0)) (gds_cons (gd_name 2 nd) (gds_cons (gd_name 3 nd) (gds_cons (gd_name 4 nd) (gds_cons (gd_name 5 nd) gds_nil)))) rfl ?_
    have cut : (if (((h : Int) - (r.floor : Int)) > 0) then ((h : Int) - (r.floor : Int)) else 0) = ((h - r.floor : Nat) : Int) := by split <;> omega
    refine sjs_retx (x := .l (rowL (forgot r h))) (EV.eq (ev_lst (ad_consd (ed_var 2) (ad_consd (ed_maxn T.max rfl (ed_var 3) (ed_var 1)) (ad_consd (ed_fromE (n := h - r.floor) (ed_var 4) (ed_is (ed_max T.max rfl (i := 0) ed_int (ed_sub (ed_var 1) (ed_var 3))) (congrArg PyData.int cut))) (ad_consd (ed_var 5) ad_nild))))) ?_) hΦ
    unfold rowL forgot
    simp only [List.map_drop]
/-! ### decided -/
theorem sc_decided : FnScope ["cells", "clock", "cell", "number", "last"] ["cells", "clock", "cell", "number", "last"] (defScope (top 50)) := ⟨rfl, rfl, rfl, by decide +kernel, rfl, by decide +kernel, by decide +kernel⟩
def R_decided (xs : List Sl) (Q : Sl → Wld → Prop) : Prop := ∃ (t : Addr) (cs : List (Str × Nat)) (clock : Nat) (x : Wait), xs = [.w (.ref t) (CW t cs), .d (dI clock), .d (.str x.cell), .d (dI x.number), .d (dI x.last)] ∧ cs.length < 1000000 ∧ Q (.d (eAns (decS cs clock x).2)) (CW t (decS cs clock x).1)
theorem valV_cells (cs : List (Str × Nat)) (x : Str) : valV (cellsK cs) (.inr x) = ((cs.find? fun p => decide (p.1 = x)).map fun p => V.int (p.2 : Int)) := by
  unfold cellsK valV
  rw [List.find?_map, Option.map_map]
  congr 1
  induction cs with
  | nil => rfl
  | cons p cs ih =>
    rw [List.find?_cons, List.find?_cons, ih]
    have e : ((fun kv : L2.Key × V => decide (kv.1 = (Sum.inr x : L2.Key))) ∘ fun p : Str × Nat => ((Sum.inr p.1 : L2.Key), V.int (p.2 : Int))) p = decide (p.1 = x) := by simp
    rw [e]
theorem put_cells (cs : List (Str × Nat)) (x : Str) (n : Nat) : putK (cellsK cs) (.inr x) (.int (n : Int)) = cellsK (putA cs x n) := by
  unfold putK putA cellsK
  have e : (List.any (cs.map fun p => ((Sum.inr p.1 : L2.Key), V.int (p.2 : Int))) fun kv => decide (kv.1 = (Sum.inr x : L2.Key))) = cs.any fun p => decide (p.1 = x) := by
    rw [List.any_map]
    congr 1
    funext p
    simp
  rw [e]
  split
  · rw [List.map_map, List.map_map]
    refine List.map_congr_left fun p _ => ?_
    simp only [Function.comp, Sum.inr.injEq]
    split <;> rfl
  · rw [List.map_append]
    rfl
end
section
variable {X : Cx} {ρ : List Sl} {a b c e f o : Expr} {pos p apos cpos : Pos} {st : Stmt} {rest : List Stmt} {N : List Sl → Prop} {R : Sl → List Sl → Prop}
theorem td_gtn {i j : Nat} (ha : ED X ρ a (dI i)) (hb : ED X ρ b (dI j)) : TD X ρ (.Compare a [.Gt] [b] pos) (decide (j < i)) := td_is (td_cmp op_gt ha hb rI0_ok (nomark _)) (decide_eq_decide.mpr (by omega))
/-- cells.get(x, 0) -/
theorem ed_getC {t : Addr} {cs : List (Str × Nat)} {x : Str} (hu : X.A.units + 1 < cLine) (ho : EV X ρ o (.r (.ref t))) (hf : HF X ρ (CW t cs).ok) (hk : ED X ρ e (.str x)) (hd : ED X ρ f (dI 0)) (m : M2 X o "get" apos e f cpos := by exact ⟨rfl, rfl, rfl, rfl⟩) : ED X ρ (.Call (.Attribute o "get" apos) [e, f] [] cpos) (dI (getA cs x)) := fun σ H ev Q q =>
  wE_of (pe_dget2 hu pe_w pe_w pe_w m) (ho σ H ev _ fun v H1 e1 o1 => by
    cases (show v = .ref t from o1)
    refine ⟨t, rfl, .inl ⟨_, .inl (hf σ H1 (ev.ex e1))⟩, hk σ H1 (ev.ex e1) _ fun y H2 e2 o2 => hd σ H2 (ev.ex (e1.tr e2)) _ fun z H3 e3 o3 => ?_⟩
    have h3 : H3 t = some (.dK (cellsK cs)) := hf σ H3 (ev.ex ((e1.tr e2).tr e3))
    have hy : y = .str x := (show DT X.K H2 y (.str x) from o2).of_str
    have hz : z = .int 0 := (show DT X.K H3 z (.int 0) from o3).of_int
    refine ⟨_, .inl ⟨cellsK cs, .inr x, .inl h3, by rw [hy]; rfl, rfl⟩, q _ H3 ((e1.tr e2).tr e3) ?_⟩
    rw [valV_cells, hz]
    unfold getA
    cases cs.find? fun p => decide (p.1 = x) with
    | none => exact .int _
    | some p => exact .int _)
/-- cells[x] = n -/
theorem sjs_putC (i : Nat) {v : V} {t : Addr} {cs : List (Str × Nat)} {x : Str} {n : Nat} {pos' : Pos} (hu : X.A.units + 1 < cLine) (h0 : ρ[i]? = some (.w v (CW t cs))) (ho : EV X ρ o (.r (.ref t))) (hk : ED X ρ e (.str x)) (hv : ED X ρ a (dI n)) (hz : cs.length < sizeLine) (tt : SJs X (ρ.set i (.w v (CW t (putA cs x n)))) rest N R)
    (hs : swapsWith a (some (.Subscript o e pos')) pos.line X.env = pure false := by rfl) : SJs X ρ (.Assign [.Subscript o e pos'] a pos :: rest) N R :=
  sjs_w i (P := fun W' => W' = CW t (putA cs x n)) h0 (fun σ H D ev k => wS_of (ps_dput hu pe_w pe_w pe_w hs) (hv σ H ev _ fun u H1 e1 o1 => ho σ H1 (ev.ex e1) _ fun w H2 e2 o2 => hk σ H2 (ev.ex (e1.tr e2)) _ fun y H3 e3 o3 => by
    cases (show w = .ref t from o2)
    have ex3 := (e1.tr e2).tr e3
    have h3 : H3 t = some (.dK (cellsK cs)) := (hf_w (X := X) i h0) σ H3 (ev.ex ex3)
    have hy : y = .str x := (show DT X.K H3 y (.str x) from o3).of_str
    have hn : u = .int (n : Int) := (show DT X.K H1 u (dI n) from o1).of_int
    refine ⟨t, upd H3 t (.dK (putK (cellsK cs) (.inr x) u)), rfl, .inl ⟨cellsK cs, .inr x, h3, by rw [hy]; rfl, by unfold cellsK; rw [List.length_map]; exact hz, rfl⟩, k _ ⟨fun b ob q nf => ?_, ex3.te.tr (tk_dk h3), _, rfl, ?_, fun b f => .inl f⟩⟩
    · rw [upd_ne (fun z => nf z)]; exact ex3 b ob q
    · show upd H3 t _ t = _
      rw [upd_same, hn, put_cells])) fun W' h => by subst h; exact tt
end
section
variable {P : Program} {w : World} {K : PySem.W.Frag} {mg : Str → Option Value} {base : Heap}
theorem c_decided (O : Own K mg "decided" (defD "decided" (top 50)) []) : Cal P w K mg base 1 "decided" (MSp K R_decided) [] := by
  refine cal_mut O sc_decided ?_ (by decide) (fun _ _ _ _ _ _ us hl => match us, hl with | [_, _, _, _, _], _ => rfl) ?_
  · rintro xs Q ⟨t, cs, clock, x, rfl, _⟩; rfl
  · rintro f cdv A outer s H E hr v W xs Q ⟨t, cs, clock, x, e, hz, hQ⟩
    cases e
    have h1 := sz
    have nd := sc_decided.nd
    have hu := roomU hr
    have hu1 : (A.deeper (PyProof.Rows.envOfC "decided" (defScope (top 50)) s.heap.objs.size f cdv)).units + 1 < cLine := by omega
    by_cases hc : x.last < clock
    · have e : decS cs clock x = (cs, .late) := by unfold decS; rw [if_pos hc]
      rw [e] at hQ
      exact sjs_takeR (td_is (td_gtn (ed_var 1) (ed_var 4)) (decide_eq_true hc)) (sjs_ret (ed_tup (ad_consd ed_str ad_nild)) ⟨_, rfl, hQ⟩)
    · have e : decS cs clock x = (putA cs x.cell (getA cs x.cell + x.number), .done (getA cs x.cell + x.number)) := by unfold decS; rw [if_neg hc]
      rw [e] at hQ
      refine sjs_skip (td_is (td_gtn (ed_var 1) (ed_var 4)) (decide_eq_false hc)) ?_
      refine sjs_putC 0 (cs := cs) (x := x.cell) (n := getA cs x.cell + x.number) hu1 rfl (ev_w 0) (ed_var 2) (ed_addn (ed_getC hu1 (ev_w 0) (hf_w (W := CW t cs) 0) (ed_var 2) ed_k) (ed_var 3)) (by omega) ?_
      refine sjs_ret (ed_tup (ad_consd ed_str (ad_consd (ev_dget (t := t) (k := .inr x.cell) (x := .d (dI (getA cs x.cell + x.number))) hu1 (ev_w 0) (ed_var 2) (fun σ H ev => ?_)) ad_nild))) ⟨_, rfl, hQ⟩
      refine ⟨_, .int ((getA cs x.cell + x.number : Nat) : Int), (hf_w (W := CW t (putA cs x.cell (getA cs x.cell + x.number))) 0 rfl) σ H ev, ?_, .int _⟩
      rw [← put_cells, valV_put, if_pos rfl]
end
end TC
set_option Elab.async false
set_option linter.all false
set_option maxRecDepth 100000
set_option maxHeartbeats 4000000
/-! The house, part 4: groups_of. -/
namespace TC
open PySem L2
/-- the pair at p holds the key and the list of e -/
structure PrG (K : PySem.W.Frag) (H0 H : Hp) (D : Addr) (p : Addr) (e : Row × Addr) : Prop where
  pD : p ≠ D
  lD : e.2 ≠ D
  l0 : H0 e.2 = none
  it : ∃ b, b ≠ D ∧ H p = some (.tup [.ref b, .ref e.2]) ∧ H b = some (.tup ((keyR e.1).map kV))
  ls : ∃ vs, H e.2 = some (.lst vs) ∧ DTs K H vs (rowL e.1)
theorem PrG.off {K : PySem.W.Frag} {H0 H H' : Hp} {D p : Addr} {e : Row × Addr} (h : PrG K H0 H D p e) (k : ∀ a o, a ≠ D → H a = some o → H' a = some o) (t : Tk H H') : PrG K H0 H' D p e := by
  obtain ⟨b, b1, b2, b3⟩ := h.it
  obtain ⟨vs, v1, v2⟩ := h.ls
  exact ⟨h.pD, h.lD, h.l0, ⟨b, b1, k _ _ h.pD b2, k _ _ b1 b3⟩, vs, k _ _ h.lD v1, v2.te t⟩
theorem paired_snoc {α β : Type} {F : α → β → Prop} : ∀ {l : List α} {m : List β} {a : α} {b : β}, Paired F l m → F a b → Paired F (l ++ [a]) (m ++ [b])
  | _, _, _, _, .nil, h => .cons h .nil
  | _, _, _, _, .cons x t, h => .cons x (paired_snoc t h)
theorem bt_dict : bootBuiltins "dict" = some (.type "dict") := by decide +kernel
theorem kp_es {K : PySem.W.Frag} {H0 H : Hp} {D : Addr} : ∀ {ps : List Addr} {es : List (Row × Addr)}, Paired (PrG K H0 H D) ps es → Paired (KP K H) ps (es.map entG)
  | _, _, .nil => .nil
  | _, _, .cons h t => by
    obtain ⟨b, b1, b2, b3⟩ := h.it
    exact .cons ⟨b, .inl (.inl b2), b3⟩ (kp_es t)
theorem ls_es {K : PySem.W.Frag} {H0 H : Hp} {D : Addr} : ∀ {ps : List Addr} {es : List (Row × Addr)}, Paired (PrG K H0 H D) ps es → ∀ e ∈ es, H0 e.2 = none ∧ ∃ vs, H e.2 = some (.lst vs) ∧ DTs K H vs (rowL e.1)
  | _, _, .nil => fun e he => by cases he
  | _, _, .cons h t => fun e he => by
    rcases List.mem_cons.mp he with rfl | he
    · exact ⟨h.l0, h.ls⟩
    · exact ls_es t e he
section
variable {X : Cx} {ρ : List Sl} {a1 a2 tg iter : Expr} {scope : Scope} {own : List (Str × Nat)} {pos lpos p p3 p4 pt : Pos} {kt : Nat}
theorem ex_dictRows {rows : List Row} (hc : X.calm = true) (hu : X.A.units + 2 < cLine) (hmd : X.mg "dict" = none) (hml : X.mg "list" = none) (hN : X.N.Nodup) (hi : IC X ρ tg iter (rows.map eRow)) (ok : BlkOk X.N X.env.scope scope own) (hz : rows.length ≤ 1000000) (nd : (rows.map place).Nodup)
    (turn : ∀ r, r ∈ rows → ∃ ps, (BL X scope fun Y => GD Y tg (eRow r) ps) ∧ (∀ q ∈ ps, q.1 ∈ own.map (·.2)) ∧ (BL X scope fun Y => ED Y (setsD ps (wipeS ρ (own.map (·.2)))) a1 (ePair (place r))) ∧ BL X scope fun Y => EV Y (setsD ps (wipeS ρ (own.map (·.2)))) (.Call (.Name "list" p3) [a2] [] p4) (.l (rowL r)))
    (he1 : BL X scope fun Y => starEach [a1, .Call (.Name "list" p3) [a2] [] p4] Y.env = (false, eval a1 Y.env) :: starEach [.Call (.Name "list" p3) [a2] [] p4] Y.env := by intro _ _ _ _ _; rfl) (he2 : BL X scope fun Y => starEach [.Call (.Name "list" p3) [a2] [] p4] Y.env = (false, eval (.Call (.Name "list" p3) [a2] [] p4) Y.env) :: starEach [] Y.env := by intro _ _ _ _ _; rfl)
    (hs : ∀ x, foldedSetIterable iter X.env x = pure x := by intro _; rfl) (hg : Gl X "dict" := by rfl)
    (he : starEach [.ListComp (.Tuple [a1, .Call (.Name "list" p3) [a2] [] p4] kt pt) [⟨tg, iter, [], 0⟩] scope lpos] X.env = (false, eval (.ListComp (.Tuple [a1, .Call (.Name "list" p3) [a2] [] p4] kt pt) [⟨tg, iter, [], 0⟩] scope lpos) X.env) :: starEach [] X.env := by rfl) (hpl : (backTo pos (starEach [] X.env)).any (·.1) = false := by rfl) :
    EX X ρ (.Call (.Name "dict" p) [.ListComp (.Tuple [a1, .Call (.Name "list" p3) [a2] [] p4] kt pt) [⟨tg, iter, [], 0⟩] scope lpos] [] pos) (fun x => ∃ a es, es.map (·.1) = rows ∧ x = .w (.ref a) (GW X.K a es)) := fun σ H ev Q q => by
  have hsz := sz
  obtain ⟨wi, i1, i2⟩ := hi
  refine wE_of (pe_callTy (call_dict_keysT hc hu) hg hmd bt_dict (pa_cons (pe_lc (own := own) hc hN i1 ok bG_ok (fun _ _ _ _ _ => pts_nil) bE_ok hs) pa_nil he) (by decide) (by decide) he hpl) ?_
  refine i2 σ H ev _ fun J H1 e1 w => fun D hD => ?_
  refine lc_it (Y := YD X.K (rows.map eRow)) (n := (rows.map eRow).length) (G := fun H2 => Ex H1 H2) w (fun i H2 => Ex H1 H2 ∧ ∃ ps es, H2 D = some (.lst (ps.map V.ref)) ∧ Paired (PrG X.K H1 H2 D) ps es ∧ es.map (·.1) = rows.take i) ⟨Ex.up hD, [], [], upd_same, .nil, by simp⟩ (fun _ _ _ z => z.1) (fun i x H2 H3 hi z y => ?_) fun H2 z => ?_
  · obtain ⟨p1, ps, es, p2, p3', p4'⟩ := z
    obtain ⟨e3, d, hd, hx⟩ := y
    obtain ⟨r, hr, rfl⟩ := map_at hd
    obtain ⟨us', g1, g2, t1, t2⟩ := turn r (List.mem_of_getElem? hr)
    refine fun s0 H0 C cl fp => g1 s0 H0 C cl fp _ H3 x hx _ fun us ok => ?_
    refine ⟨(wipe_sets (ok.fst g2)).trans wipe_wipe, ?_⟩
    have env := ok.env ((ev.ex ((e1.tr p1).tr e3)).wipe (own.map (·.2)))
    refine fun s1 H1' C1 cl1 fp1 => wE_of (pe_tup (x1 := kt) (pos := pt) (pa_cons pe_w (pa_cons pe_w pa_nil (he2 s1 H1' C1 cl1 fp1)) (he1 s1 H1' C1 cl1 fp1))) (t1 s1 H1' C1 cl1 fp1 _ H3 env _ fun v H4 e4 o4 => t2 s1 H1' C1 cl1 fp1 _ H4 (env.ex e4) _ fun u H5 e5 o5 => ?_)
    obtain ⟨b, rfl, hb⟩ := DT.key_at (ks := keyR r) (fun q => by cases q) (show DT X.K H4 v (keyDs (keyR r)) from o4)
    obtain ⟨l, vs, rfl, hl0, hl, dl⟩ := o5
    refine ⟨by show 2 ≤ sizeLine; omega, fun q' hq' => ?_⟩
    have D5 : H5 D = some (.lst (ps.map V.ref)) := e5 _ _ (e4 _ _ (e3 _ _ p2))
    have qD : q' ≠ D := (ne_of_none D5 hq').symm
    have lD : l ≠ D := fun z => by rw [z, e4 _ _ (e3 _ _ p2)] at hl0; cases hl0
    have bD : b ≠ D := fun z => by rw [z, e4 _ _ (e3 _ _ p2)] at hb; cases hb
    have ex6 : Ex H2 (upd H5 q' (.tup [.ref b, .ref l])) := ((e3.tr e4).tr e5).tr (Ex.up hq')
    have D6 : (upd H5 q' (.tup [.ref b, .ref l])) D = some (.lst (ps.map V.ref)) := ex6 _ _ p2
    have tk : Tk (upd H5 q' (.tup [.ref b, .ref l])) (upd (upd H5 q' (.tup [.ref b, .ref l])) D (.lst (ps.map V.ref ++ [.ref q']))) := Tk.upl D6
    have offD : ∀ a o, a ≠ D → (upd H5 q' (.tup [.ref b, .ref l])) a = some o → (upd (upd H5 q' (.tup [.ref b, .ref l])) D (.lst (ps.map V.ref ++ [.ref q']))) a = some o := fun a o n e => by rw [upd_ne n]; exact e
    have len : ps.length = i := by
      have h1 := Paired.length p3'
      have h2 := congrArg List.length p4'
      rw [List.length_map, List.length_take] at h2
      have := (List.getElem?_eq_some_iff.mp hr).1
      omega
    refine ⟨ps.map V.ref, D6, by have := (List.getElem?_eq_some_iff.mp hr).1; rw [List.length_map]; omega, fun a o h => ?_, ps ++ [q'], es ++ [(r, l)], by rw [upd_same, List.map_append]; rfl, ?_, by rw [List.map_append, p4', take_snoc hr]; rfl⟩
    · have n : a ≠ D := ne_of_none h hD
      exact offD a o n (ex6 a o (p1 a o h))
    · refine paired_snoc (L2.Paired.mapP p3' fun p e z => (z.off (fun a o _ h => ex6 a o h) ex6.te).off offD tk) ?_
      have z : PrG X.K H1 (upd H5 q' (.tup [.ref b, .ref l])) D q' (r, l) := ⟨qD, lD, (p1.tr e3).back (e4.back hl0), ⟨b, bD, upd_same, Ex.up hq' _ _ (e5 _ _ hb)⟩, vs, Ex.up hq' _ _ hl, dl.te (Ex.up hq').te⟩
      exact z.off offD tk
  · obtain ⟨p1, ps, es, p2, p3', p4'⟩ := z
    rw [List.length_map, List.take_length] at p4'
    refine ⟨D, ps, es.map entG, rfl, .inl (.of p2), kp_es p3', ?_, fun a ha => ?_⟩
    · rw [List.map_map]
      have e0 : (es.map ((·.1) ∘ entG)) = rows.map keyR := by rw [← p4', List.map_map]; rfl
      rw [e0]
      refine List.Pairwise.map keyR (fun r r' h e => ?_) (List.pairwise_map.mp nd)
      simp only [keyR, List.cons.injEq, Sum.inl.injEq, and_true] at e
      exact h (Prod.ext (by show r.c = r'.c; omega) (by show r.g = r'.g; omega))
    · have xa : Ex H2 (upd H2 a (.dT (es.map entG))) := Ex.up ha
      refine q (.ref a) _ (.w (.ref a) (GW X.K a es)) ((e1.tr p1).tr xa) ⟨rfl, ⟨upd_same, fun e he => ?_⟩, fun b hb => ?_⟩ ⟨a, es, p4', rfl⟩
      · obtain ⟨_, vs, h1, h2⟩ := ls_es p3' e he
        exact ⟨vs, xa _ _ h1, h2.te xa.te⟩
      · rcases hb with rfl | ⟨e, he, rfl⟩
        · exact (e1.tr p1).back ha
        · exact e1.back (ls_es p3' e he).1
end
section
variable {P : Program} {w : World} {K : PySem.W.Frag} {mg : Str → Option Value} {base : Heap}
theorem sc_groups_h : FnScope ["house", "row"] ["house"] (defScope (top 47)) := ⟨rfl, rfl, rfl, by decide +kernel, rfl, by decide +kernel, by decide +kernel⟩
def R_groups_h (K : PySem.W.Frag) (xs : List Sl) (Φ : Sl → Prop) : Prop := ∃ h : House, xs = [.d (eHouse h)] ∧ (h.rows.map place).Nodup ∧ h.rows.length ≤ 1000000 ∧ ∀ a es, es.map (·.1) = h.rows → Φ (.w (.ref a) (GW K a es))
theorem c_groups_h {g : Str} (T : Bl mg) (O : Own K mg g (defD "groups_of" (top 47)) []) : Cal P w K mg base 1 g (ASl K (R_groups_h K)) [] := by
  refine cal_argsX O sc_groups_h ?_ (by decide) (fun _ _ _ _ _ _ us hl => match us, hl with | [_], _ => rfl) ?_
  · rintro xs Φ ⟨h, rfl, _⟩
    exact ⟨rfl, fun y hy => by rw [List.mem_singleton.mp hy]; exact trivial⟩
  · rintro f cdv A outer s H E hr xs Φ ⟨h, rfl, nd, hz, hΦ⟩
    have h1 := sz
    have ndN := sc_groups_h.nd
    have hu := roomU hr
    have hu2 : (A.deeper (PyProof.Rows.envOfC "groups_of" (defScope (top 47)) s.heap.objs.size f cdv)).units + 2 < cLine := by omega
    refine sjs_retX (Φ := fun x => ∃ a es, es.map (·.1) = h.rows ∧ x = .w (.ref a) (GW K a es)) ?_ (fun y hy => by
      obtain ⟨a, es, e1, rfl⟩ := hy
      exact hΦ a es e1)
    refine ex_dictRows (own := [("row", 1)]) rfl hu2 T.dict T.list ndN (it_tup (ed_ic (ed_var 0) rfl)).ic (blkOk_by (N := ["house", "row"]) (sc := defScope (top 47)) (by decide +kernel)) hz nd (fun r hr => ?_)
    exact ⟨[(1, eRow r)], fun _ _ _ _ _ => gd_name 1 ndN, own_by, fun _ _ _ _ _ => ed_ic (ed_var 1) rfl, fun _ _ _ _ _ => ev_lstOf T.list (ed_is (ed_from (ed_var 1)) rfl)⟩
end
end TC
set_option Elab.async false
set_option linter.all false
set_option maxRecDepth 100000
set_option maxHeartbeats 4000000
/-! The house, part 5: rules for asked. -/
namespace TC
open PySem L2
/-! ### dict(house[0]) -/
theorem putK_nd {κ : Type} [DecidableEq κ] : ∀ (more kvs : List (κ × V)), ((kvs ++ more).map (·.1)).Nodup → more.foldl (fun acc kv => putK acc kv.1 kv.2) kvs = kvs ++ more
  | [], kvs, _ => by simp
  | p :: ps, kvs, h => by
    have hn : valV kvs p.1 = none := by
      have z := valV_any p.1 kvs
      cases e : valV kvs p.1 with
      | none => rfl
      | some q =>
        exfalso
        rw [e] at z
        obtain ⟨y, hy, hk⟩ := List.any_eq_true.mp z
        have hk : y.1 = p.1 := of_decide_eq_true hk
        rw [List.map_append, List.map_cons, List.nodup_append] at h
        exact h.2.2 y.1 (List.mem_map.mpr ⟨y, hy, rfl⟩) p.1 List.mem_cons_self hk
    rw [List.foldl_cons, putK_new p.2 hn, putK_nd ps (kvs ++ [(p.1, p.2)]) (by simpa using h)]
    simp
theorem isCells_cells (cs : List (Str × Nat)) : isCells (cs.map eCell) = true := by
  unfold isCells
  rw [List.all_map]
  exact List.all_eq_true.mpr fun p _ => rfl
theorem cells_pairs {K : PySem.W.Frag} {H : Hp} : ∀ {cs : List (Str × Nat)} {vs : List V}, DTs K H vs (cs.map eCell) → ∃ ps : List Addr, vs = ps.map V.ref ∧ Paired (fun p kv => SqT K H p [kV kv.1, kv.2]) ps (cellsK cs)
  | [], _, .nil => ⟨[], rfl, .nil⟩
  | c :: cs, _, .cons h t => by
    obtain ⟨ps, rfl, h2⟩ := cells_pairs t
    obtain ⟨a, xs, rfl, s, r⟩ := (show DT K H _ (.tuple [.str c.1, dI c.2]) from h).of_tup
    refine ⟨a :: ps, rfl, .cons ?_ h2⟩
    cases r with
    | cons r1 r2 => cases r2 with
      | cons r2 r3 =>
        cases r3
        cases r1.of_str
        cases (show DT K H _ (.int (c.2 : Int)) from r2).of_int
        exact s.sq
theorem nd_cells {cs : List (Str × Nat)} (h : (cs.map (·.1)).Nodup) : ((cellsK cs).map (·.1)).Nodup := by
  unfold cellsK
  rw [List.map_map]
  exact List.pairwise_map.mpr ((List.pairwise_map.mp h).imp fun {a b} n e => n (by simpa using e))
section
variable {X : Cx} {ρ : List Sl} {a b c e f o : Expr} {es : List Expr} {pos p apos cpos : Pos} {st : Stmt} {rest : List Stmt} {N : List Sl → Prop} {R : Sl → List Sl → Prop}
theorem ex_dictCells {cs : List (Str × Nat)} (hc : X.calm = true) (hm : X.mg "dict" = none) (nd : (cs.map (·.1)).Nodup) (ha : ED X ρ a (.tuple (cs.map eCell))) (hg : Gl X "dict" := by rfl) (he : starEach [a] X.env = (false, eval a X.env) :: starEach [] X.env := by rfl) (hpl : (backTo pos (starEach [] X.env)).any (·.1) = false := by rfl) :
    EX X ρ (.Call (.Name "dict" p) [a] [] pos) (fun x => ∃ t, x = .w (.ref t) (CW t cs)) := fun σ H ev Q q =>
  wE_of (pe_callTy (call_dict_cells hc) hg hm bt_dict (pa_cons pe_w pa_nil he) (by decide) (by decide) he hpl) (ha σ H ev _ fun v H1 e1 o1 => by
    obtain ⟨t, xs, rfl, s, r⟩ := (show DT X.K H1 v (.tuple (cs.map eCell)) from o1).of_tup
    obtain ⟨ps, rfl, hp⟩ := cells_pairs r
    obtain ⟨o, ho, hf⟩ := s.1 (isCells_cells cs)
    refine ⟨t, o, ps, cellsK cs, rfl, ho, hf, hp, fun p hp' => ?_⟩
    have e0 : mergeK [] (cellsK cs) = cellsK cs := by
      unfold mergeK
      rw [putK_nd (cellsK cs) [] (by simpa using nd_cells nd)]
      rfl
    rw [e0]
    exact q (.ref p) _ (.w (.ref p) (CW p cs)) (e1.tr (Ex.up hp')) ⟨rfl, upd_same, fun b hb => by cases (show b = p from hb); exact e1.back hp'⟩ ⟨p, rfl⟩)
/-! ### comparisons -/
theorem td_chain {op op' : CmpOp} {g g' : Int → Int → Bool} {i j k : Int} (h1 : OpR X (compareOp op) (rI0 fun i j => .bl (g i j))) (h2 : OpR X (compareOp op') (rI0 fun i j => .bl (g' i j))) (ha : ED X ρ a (.int i)) (hb : ED X ρ b (.int j)) (hc : ED X ρ c (.int k)) (hm : lastMarks [op, op'] [b, c] = false := by with_unfolding_all rfl) :
    TD X ρ (.Compare a [op, op'] [b, c] pos) (g i j && g' j k) := fun σ H ev Q q =>
  wT_of (pt_chain h1 h2 pe_w pe_w pe_w hm) (ha σ H ev _ fun v H1 e1 o1 => hb σ H1 (ev.ex e1) _ fun u H2 e2 o2 => by
    cases (show DT X.K H1 v (.int i) from o1).of_int
    cases (show DT X.K H2 u (.int j) from o2).of_int
    refine ⟨i, j, rfl, rfl, g i j, rfl, ?_⟩
    cases hg : g i j with
    | true =>
      refine hc σ H2 (ev.ex (e1.tr e2)) _ fun z H3 e3 o3 => ?_
      cases (show DT X.K H3 z (.int k) from o3).of_int
      exact ⟨j, k, rfl, rfl, g' j k, rfl, by simpa [hg] using q H3 ((e1.tr e2).tr e3)⟩
    | false => exact ⟨false, rfl, by simpa [hg] using q H2 (e1.tr e2)⟩)
theorem td_niL {d : PyData} {ds : List PyData} (hu : X.A.units + 65 < cLine) (ha : ED X ρ a d) (hb : ER X ρ b ds) (h1 : SeqAt.shaped d = true) (h2 : SeqAt.shaped (.list ds) = true) (hm : behindInMarks .NotIn b = false := by with_unfolding_all rfl) : TD X ρ (.Compare a [.NotIn] [b] pos) (!ds.any fun z => PyData.eqv z d) := fun σ H ev Q q =>
  wT_of (pt_cmpR (op_notInD hu) pe_w pe_w hm) (ha σ H ev _ fun v H1 e1 o1 => hb σ H1 (ev.ex e1) _ fun t xs H2 e2 o2 r => ⟨d, ds, ((show DT X.K H1 v d from o1).te e2.te).dp, .lst (.of o2) r.dp, h1, h2, _, rfl, q H2 (e1.tr e2)⟩)
theorem td_neL {ds es : List PyData} (hu : X.A.units + 64 < cLine) (ha : ER X ρ a ds) (hb : ER X ρ b es) (h1 : SeqAt.shaped (.list ds) = true) (h2 : SeqAt.shaped (.list es) = true) : TD X ρ (.Compare a [.NotEq] [b] pos) (!PyData.eqv (.list ds) (.list es)) := fun σ H ev Q q =>
  wT_of (pt_cmpR (op_neD hu) pe_w pe_w (nomark _)) (ha σ H ev _ fun t xs H1 e1 o1 r1 => hb σ H1 (ev.ex e1) _ fun u ys H2 e2 o2 r2 => ⟨.list ds, .list es, .lst (.of (e2 _ _ o1)) (r1.te e2.te).dp, .lst (.of o2) r2.dp, h1, h2, _, rfl, q H2 (e1.tr e2)⟩)
/-! ### x, y = e, e' where e changes a world -/
theorem sjs_parW (i j : Nat) {x y : Str} {Re : PyData → List Sl → Prop} {px py pt : Pos} {kt k2 pt2} (ha : EW X ρ a Re) (hb : ∀ d ρ', Re d ρ' → ∃ v, EV X ρ' b v ∧ SJs X ((ρ'.set i (.d d)).set j v) rest N R) (hc : X.calm = true) (hN : X.N.Nodup) (hi : X.N[i]? = some x := by rfl) (hj : X.N[j]? = some y := by rfl) (hij : i ≠ j := by decide)
    (hx : X.env.scope.names.lookup x = some .local := by rfl) (hy : X.env.scope.names.lookup y = some .local := by rfl) (he : starEach [a, b] X.env = (false, eval a X.env) :: starEach [b] X.env := by rfl) (he2 : starEach [b] X.env = (false, eval b X.env) :: starEach [] X.env := by rfl)
    (hw : swappedStores [.Tuple [.Name x px, .Name y py] kt pt] (.Tuple [a, b] k2 pt2) X.env = pure (some [x, y]) := by rfl) (hs : swapsWithSole [.Tuple [.Name x px, .Name y py] kt pt] (.Tuple [a, b] k2 pt2) pos.line X.env = pure false := by rfl) :
    SJs X ρ (.Assign [.Tuple [.Name x px, .Name y py] kt pt] (.Tuple [a, b] k2 pt2) pos :: rest) N R :=
  sjs_cons (M := fun ρ2 => ∃ d ρ' v, Re d ρ' ∧ EV X ρ' b v ∧ SJs X ((ρ'.set i (.d d)).set j v) rest N R ∧ ρ2 = (ρ'.set i (.d d)).set j v) (fun B F σ H ev D k r => wS_of (ps_par hc hN hi hj hij hx hy (pa_cons pe_w (pa_cons pe_w pa_nil he2) he) hw hs) (ha B F σ H ev _ fun v1 H1 d ρ' ev1 t1 o1 hR => by
    obtain ⟨v, h1, h2⟩ := hb d ρ' hR
    exact h1 σ H1 ev1.env _ fun v2 H2 e2 o2 => ⟨v1, v2, rfl, k _ H2 _ ((ev1.put (x := .d d) (Ex.rf H1) o1).put e2 o2) (t1.tr e2.te) ⟨d, ρ', v, hR, h1, h2, rfl⟩⟩)) fun ρ2 m => by
    obtain ⟨d, ρ', v, hR, h1, h2, rfl⟩ := m
    exact h2
end
end TC
set_option Elab.async false
set_option linter.all false
set_option maxRecDepth 100000
set_option maxHeartbeats 4000000
/-! Trees of lists and dicts that are one's own: each node with its address. -/
namespace TC
open PySem L2
inductive Knd where
  | lst
  | dk (ks : List L2.Key)
  | dt (ks : List (List L2.Key))
  | fz (o : Obj) (ks : List (List L2.Key))
def Knd.ob : Knd → List V → HO
  | .lst, vs => .lst vs
  | .dk ks, vs => .dK (ks.zip vs)
  | .dt ks, vs => .dT (ks.zip vs)
  | .fz o ks, vs => .frz o (.dT (ks.zip vs))
def Knd.fits : Knd → Nat → Prop
  | .lst, _ => True
  | .dk ks, n => ks.length = n
  | .dt ks, n => ks.length = n
  | .fz _ ks, n => ks.length = n
theorem Knd.noTup {k : Knd} {vs xs : List V} : some (k.ob vs) ≠ some (HO.tup xs) := by cases k <;> simp [Knd.ob]
theorem Knd.noFrz {k : Knd} {vs xs : List V} {o : Obj} : some (k.ob vs) ≠ some (HO.frz o (HO.tup xs)) := by cases k <;> simp [Knd.ob]
inductive MT where
  | d (x : PyData)
  | n (a : Addr) (k : Knd) (cs : List MT)
mutual
def MT.fp : MT → List Addr
  | .d _ => []
  | .n a _ cs => a :: MT.fps cs
def MT.fps : List MT → List Addr
  | [] => []
  | c :: cs => MT.fp c ++ MT.fps cs
end
mutual
inductive Rp (K : PySem.W.Frag) (H : Hp) : V → MT → Prop
  | d {v : V} {x : PyData} : DT K H v x → Rp K H v (.d x)
  | n {a : Addr} {k : Knd} {vs : List V} {cs : List MT} : H a = some (k.ob vs) → k.fits cs.length → Rps K H vs cs → Rp K H (.ref a) (.n a k cs)
inductive Rps (K : PySem.W.Frag) (H : Hp) : List V → List MT → Prop
  | nil : Rps K H [] []
  | cons {v : V} {vs : List V} {c : MT} {cs : List MT} : Rp K H v c → Rps K H vs cs → Rps K H (v :: vs) (c :: cs)
end
section
variable {K : PySem.W.Frag} {H H' : Hp}
theorem Rp.un {v : V} {a : Addr} {k : Knd} {cs : List MT} (h : Rp K H v (.n a k cs)) : v = .ref a ∧ k.fits cs.length ∧ ∃ vs, H a = some (k.ob vs) ∧ Rps K H vs cs := by
  cases h with
  | n h1 h2 h3 => exact ⟨rfl, h2, _, h1, h3⟩
theorem Rp.und {v : V} {x : PyData} (h : Rp K H v (.d x)) : DT K H v x := by
  cases h with
  | d h => exact h
mutual
theorem Rp.stay : ∀ {v : V} {t : MT}, Rp K H v t → (∀ a ∈ t.fp, H' a = H a) → Tk H H' → Rp K H' v t
  | _, .d x, .d h, _, t => .d (h.te t)
  | _, .n a k cs, .n h1 h2 h3, e, t => .n (by rw [e a (by simp [MT.fp])]; exact h1) h2 (Rps.stay h3 (fun b hb => e b (by simp [MT.fp, hb])) t)
theorem Rps.stay : ∀ {vs : List V} {cs : List MT}, Rps K H vs cs → (∀ a ∈ MT.fps cs, H' a = H a) → Tk H H' → Rps K H' vs cs
  | _, _, .nil, _, _ => .nil
  | _, _, .cons h r, e, t => .cons (Rp.stay h (fun b hb => e b (by simp [MT.fps, hb])) t) (Rps.stay r (fun b hb => e b (by simp [MT.fps, hb])) t)
end
mutual
theorem Rp.dom : ∀ {v : V} {t : MT}, Rp K H v t → ∀ a ∈ t.fp, ∃ o, H a = some o
  | _, .d x, .d h, a, m => by simp [MT.fp] at m
  | _, .n b k cs, .n h1 h2 h3, a, m => by
    simp only [MT.fp, List.mem_cons] at m
    rcases m with rfl | m
    · exact ⟨_, h1⟩
    · exact Rps.dom h3 a m
theorem Rps.dom : ∀ {vs : List V} {cs : List MT}, Rps K H vs cs → ∀ a ∈ MT.fps cs, ∃ o, H a = some o
  | _, _, .nil, a, m => by simp [MT.fps] at m
  | _, _, .cons h r, a, m => by
    simp only [MT.fps, List.mem_append] at m
    rcases m with m | m
    · exact Rp.dom h a m
    · exact Rps.dom r a m
end
theorem Rps.len : ∀ {vs : List V} {cs : List MT}, Rps K H vs cs → vs.length = cs.length
  | _, _, .nil => rfl
  | _, _, .cons _ t => congrArg Nat.succ (Rps.len t)
theorem Rps.at_ : ∀ {vs : List V} {cs : List MT} {i : Nat} {c : MT}, Rps K H vs cs → cs[i]? = some c → ∃ v, vs[i]? = some v ∧ Rp K H v c
  | _, _, 0, _, .cons h _, e => by simp at e; subst e; exact ⟨_, rfl, h⟩
  | _, _, i + 1, c, .cons _ t, e => by
    obtain ⟨v, h1, h2⟩ := Rps.at_ (i := i) (c := c) t (by simpa using e)
    exact ⟨v, by simpa using h1, h2⟩
  | _, _, _, _, .nil, e => by simp at e
theorem Rps.set {v : V} {c : MT} (q : Rp K H v c) : ∀ {vs : List V} {cs : List MT} (i : Nat), Rps K H vs cs → Rps K H (vs.set i v) (cs.set i c)
  | _, _, _, .nil => .nil
  | _, _, 0, .cons _ t => .cons q t
  | _, _, i + 1, .cons h t => .cons h (Rps.set q i t)
theorem Rps.app : ∀ {vs ws : List V} {cs ds : List MT}, Rps K H vs cs → Rps K H ws ds → Rps K H (vs ++ ws) (cs ++ ds)
  | _, _, _, _, .nil, r => r
  | _, _, _, _, .cons h t, r => .cons h (Rps.app t r)
theorem Rps.one {v : V} {c : MT} (h : Rp K H v c) : Rps K H [v] [c] := .cons h .nil
theorem Rps.dts : ∀ {vs : List V} {ds : List PyData}, Rps K H vs (ds.map MT.d) → DTs K H vs ds
  | [], [], _ => .nil
  | _ :: _, _ :: _, .cons h t => .cons h.und (Rps.dts t)
theorem DTs.rps : ∀ {vs : List V} {ds : List PyData}, DTs K H vs ds → Rps K H vs (ds.map MT.d)
  | _, _, .nil => .nil
  | _, _, .cons h t => .cons (.d h) (DTs.rps t)
theorem fps_d : ∀ ds : List PyData, MT.fps (ds.map MT.d) = []
  | [] => rfl
  | d :: ds => by simp [MT.fps, MT.fp, fps_d ds]
theorem fps_app : ∀ cs ds : List MT, MT.fps (cs ++ ds) = MT.fps cs ++ MT.fps ds
  | [], ds => rfl
  | c :: cs, ds => by simp [MT.fps, fps_app cs ds]
theorem fps_mem {a : Addr} : ∀ {cs : List MT} {i : Nat} {c : MT}, cs[i]? = some c → a ∈ c.fp → a ∈ MT.fps cs
  | c :: cs, 0, _, e, m => by simp at e; subst e; simp [MT.fps, m]
  | c :: cs, i + 1, _, e, m => by simp only [MT.fps, List.mem_append]; exact .inr (fps_mem (by simpa using e) m)
  | [], _, _, e, _ => by simp at e
theorem fps_ex {z : Addr} : ∀ {ds : List MT}, z ∈ MT.fps ds → ∃ (l : Nat) (d : MT), ds[l]? = some d ∧ z ∈ d.fp
  | [], h => by simp [MT.fps] at h
  | y :: ys, h => by
    simp only [MT.fps, List.mem_append] at h
    rcases h with h | h
    · exact ⟨0, y, rfl, h⟩
    · obtain ⟨l, d', h3, h4⟩ := fps_ex h
      exact ⟨l + 1, d', by simpa using h3, h4⟩
theorem fps_set_mem {a : Addr} {c : MT} : ∀ {cs : List MT} {i : Nat}, a ∈ MT.fps (cs.set i c) → a ∈ c.fp ∨ a ∈ MT.fps cs
  | [], _, m => .inr m
  | x :: cs, 0, m => by
    simp only [List.set_cons_zero, MT.fps, List.mem_append] at m ⊢
    rcases m with m | m
    · exact .inl m
    · exact .inr (.inr m)
  | x :: cs, i + 1, m => by
    simp only [List.set_cons_succ, MT.fps, List.mem_append] at m ⊢
    rcases m with m | m
    · exact .inr (.inl m)
    · exact (fps_set_mem m).imp id .inr
theorem fps_nd : ∀ {cs : List MT} {i : Nat} {c : MT}, cs[i]? = some c → (MT.fps cs).Nodup → c.fp.Nodup
  | c :: cs, 0, _, e, n => by simp at e; subst e; exact (List.nodup_append.mp n).1
  | c :: cs, i + 1, _, e, n => fps_nd (cs := cs) (by simpa using e) (List.nodup_append.mp n).2.1
  | [], _, _, e, _ => by simp at e
/-- a child put in another's place: what stood in that, or is nowhere else, may stand in it -/
theorem fps_set_nd {c s : MT} : ∀ {cs : List MT} {i : Nat}, cs[i]? = some s → (MT.fps cs).Nodup → c.fp.Nodup → (∀ a ∈ c.fp, a ∈ s.fp ∨ a ∉ MT.fps cs) → (MT.fps (cs.set i c)).Nodup
  | x :: cs, 0, e, n, nc, h => by
    simp at e; subst e
    simp only [List.set_cons_zero, MT.fps] at n h ⊢
    obtain ⟨n1, n2, n3⟩ := List.nodup_append.mp n
    refine List.nodup_append.mpr ⟨nc, n2, fun a ha b hb q => ?_⟩
    subst q
    rcases h a ha with q | q
    · exact n3 a q a hb rfl
    · exact q (List.mem_append.mpr (.inr hb))
  | x :: cs, i + 1, e, n, nc, h => by
    simp only [List.set_cons_succ, MT.fps] at n h ⊢
    obtain ⟨n1, n2, n3⟩ := List.nodup_append.mp n
    have e : cs[i]? = some s := by simpa using e
    refine List.nodup_append.mpr ⟨n1, fps_set_nd e n2 nc (fun a ha => (h a ha).imp id fun q m => q (List.mem_append.mpr (.inr m))), fun a ha b hb q => ?_⟩
    subst q
    rcases fps_set_mem hb with m | m
    · rcases h a m with q | q
      · exact n3 a ha a (fps_mem e q) rfl
      · exact q (List.mem_append.mpr (.inl ha))
    · exact n3 a ha a m rfl
  | [], _, e, _, _, _ => by simp at e
/-- two children have nothing in common -/
theorem fps_off {a : Addr} : ∀ {cs : List MT} {i j : Nat} {c s : MT}, cs[i]? = some c → cs[j]? = some s → i ≠ j → (MT.fps cs).Nodup → a ∈ c.fp → a ∉ s.fp
  | x :: cs, 0, 0, _, _, _, _, h, _, _ => (h rfl).elim
  | x :: cs, 0, j + 1, c, s, e1, e2, _, n, m => fun m2 => by
    simp at e1; subst e1
    exact (List.nodup_append.mp n).2.2 a m a (fps_mem (by simpa using e2) m2) rfl
  | x :: cs, i + 1, 0, c, s, e1, e2, _, n, m => fun m2 => by
    simp at e2; subst e2
    exact (List.nodup_append.mp n).2.2 a m2 a (fps_mem (by simpa using e1) m) rfl
  | x :: cs, i + 1, j + 1, c, s, e1, e2, h, n, m => fps_off (cs := cs) (i := i) (j := j) (by simpa using e1) (by simpa using e2) (fun q => h (by omega)) (List.nodup_append.mp n).2.1 m
  | [], _, _, _, _, e, _, _, _, _ => by simp at e
/-! ### places in a tree -/
def MT.at_ : List Nat → MT → Option MT
  | [], t => some t
  | i :: p, .n _ _ cs => (cs[i]?).bind (MT.at_ p)
  | _ :: _, .d _ => none
def MT.put (s : MT) : List Nat → MT → MT
  | [], _ => s
  | i :: p, .n a k cs => .n a k (match cs[i]? with
    | some c => cs.set i (MT.put s p c)
    | none => cs)
  | _ :: _, .d x => .d x
theorem at_cons {i : Nat} {p : List Nat} {t s : MT} (h : MT.at_ (i :: p) t = some s) : ∃ a k cs c, t = .n a k cs ∧ cs[i]? = some c ∧ MT.at_ p c = some s := by
  cases t with
  | d x => simp [MT.at_] at h
  | n a k cs =>
    simp only [MT.at_] at h
    cases e : cs[i]? with
    | none => rw [e] at h; cases h
    | some c => rw [e] at h; exact ⟨a, k, cs, c, rfl, e, h⟩
theorem put_cons {i : Nat} {p : List Nat} {a : Addr} {k : Knd} {cs : List MT} {c s : MT} (e : cs[i]? = some c) : MT.put s (i :: p) (.n a k cs) = .n a k (cs.set i (MT.put s p c)) := by
  simp only [MT.put, e]
theorem at_fp {b : Addr} : ∀ {p : List Nat} {t s : MT}, MT.at_ p t = some s → b ∈ s.fp → b ∈ t.fp
  | [], t, s, h, m => by simp [MT.at_] at h; subst h; exact m
  | i :: p, t, s, h, m => by
    obtain ⟨a, k, cs, c, rfl, e, h⟩ := at_cons h
    simp only [MT.fp, List.mem_cons]
    exact .inr (fps_mem e (at_fp h m))
theorem at_nd : ∀ {p : List Nat} {t s : MT}, MT.at_ p t = some s → t.fp.Nodup → s.fp.Nodup
  | [], t, s, h, m => by simp [MT.at_] at h; subst h; exact m
  | i :: p, t, s, h, m => by
    obtain ⟨a, k, cs, c, rfl, e, h⟩ := at_cons h
    exact at_nd h (fps_nd e (List.nodup_cons.mp m).2)
theorem Rp.sub : ∀ {p : List Nat} {t s : MT} {v : V}, Rp K H v t → MT.at_ p t = some s → ∃ u, Rp K H u s
  | [], t, s, v, r, h => by simp [MT.at_] at h; subst h; exact ⟨v, r⟩
  | i :: p, t, s, v, r, h => by
    obtain ⟨a, k, cs, c, rfl, e, h⟩ := at_cons h
    obtain ⟨_, _, vs, _, h2⟩ := r.un
    obtain ⟨u, _, h3⟩ := h2.at_ e
    exact h3.sub h
theorem put_mem {b : Addr} {s' : MT} : ∀ {p : List Nat} {t s : MT}, MT.at_ p t = some s → b ∈ (MT.put s' p t).fp → b ∈ t.fp ∨ b ∈ s'.fp
  | [], t, s, h, m => .inr m
  | i :: p, t, s, h, m => by
    obtain ⟨a, k, cs, c, rfl, e, h⟩ := at_cons h
    rw [put_cons e] at m
    simp only [MT.fp, List.mem_cons] at m ⊢
    rcases m with m | m
    · exact .inl (.inl m)
    · rcases fps_set_mem m with m | m
      · exact (put_mem h m).imp (fun q => .inr (fps_mem e q)) id
      · exact .inl (.inr m)
theorem put_nd {s' : MT} : ∀ {p : List Nat} {t s : MT}, MT.at_ p t = some s → t.fp.Nodup → s'.fp.Nodup → (∀ b ∈ s'.fp, b ∈ s.fp ∨ b ∉ t.fp) → (MT.put s' p t).fp.Nodup
  | [], t, s, h, n, n', hb => n'
  | i :: p, t, s, h, n, n', hb => by
    obtain ⟨a, k, cs, c, rfl, e, h⟩ := at_cons h
    rw [put_cons e]
    obtain ⟨n1, n2⟩ := List.nodup_cons.mp n
    have sub : ∀ b ∈ (MT.put s' p c).fp, b ∈ c.fp ∨ b ∉ a :: MT.fps cs := fun b m => by
      rcases put_mem h m with q | q
      · exact .inl q
      · rcases hb b q with z | z
        · exact .inl (at_fp h z)
        · exact .inr z
    refine List.nodup_cons.mpr ⟨fun m => ?_, fps_set_nd e n2 (put_nd h (fps_nd e n2) n' fun b m => (hb b m).imp id fun z q => z (List.mem_cons_of_mem _ (fps_mem e q))) fun b m => (sub b m).imp id fun z q => z (List.mem_cons_of_mem _ q)⟩
    rcases fps_set_mem m with m | m
    · rcases sub a m with q | q
      · exact n1 (fps_mem e q)
      · exact q List.mem_cons_self
    · exact n1 m
theorem Rp.put {a : Addr} {k : Knd} {cs : List MT} {s' : MT} (tk : Tk H H') (r' : Rp K H' (.ref a) s') : ∀ {p : List Nat} {t : MT} {v : V}, Rp K H v t → t.fp.Nodup → MT.at_ p t = some (.n a k cs) → (∀ b ∈ t.fp, b ∉ (MT.n a k cs).fp → H' b = H b) → Rp K H' v (MT.put s' p t)
  | [], t, v, r, nn, h, off => by
    simp [MT.at_] at h; subst h
    rw [r.un.1]; exact r'
  | i :: p, t, v, r, nn, h, off => by
    obtain ⟨b, k', cs', c, rfl, e, h⟩ := at_cons h
    rw [put_cons e]
    obtain ⟨rfl, ft, vs, h1, h2⟩ := r.un
    obtain ⟨n1, n2⟩ := List.nodup_cons.mp nn
    obtain ⟨u, hu, hc⟩ := h2.at_ e
    have rc : Rp K H' u (MT.put s' p c) := Rp.put tk r' hc (fps_nd e n2) h fun b' m z => off b' (List.mem_cons_of_mem _ (fps_mem e m)) z
    have hl : i < vs.length := (List.getElem?_eq_some_iff.mp hu).1
    have hb : H' b = H b := off b List.mem_cons_self fun m => n1 (fps_mem e (at_fp h m))
    refine .n (vs := vs) (by rw [hb]; exact h1) (by rw [List.length_set]; exact ft) ?_
    -- the other children stay
    have gen : ∀ (j : Nat) (ws : List V) (ds : List MT), Rps K H ws ds → ds[j]? = some c → ws[j]? = some u → (∀ (l : Nat) (d : MT), ds[l]? = some d → l ≠ j → ∀ z ∈ d.fp, H' z = H z) → Rps K H' ws (ds.set j (MT.put s' p c)) := by
      intro j ws ds
      induction ds generalizing j ws with
      | nil => intro _ e _ _; simp at e
      | cons d ds ih =>
        intro q e1 e2 e3
        cases q with
        | cons q1 q2 =>
          cases j with
          | zero =>
            simp at e2
            subst e2
            refine .cons rc (q2.stay (fun z hz => ?_) tk)
            obtain ⟨l, d', hd, hm⟩ := fps_ex hz
            exact e3 (l + 1) d' (by simpa using hd) (by omega) z hm
          | succ j =>
            refine .cons (q1.stay (fun z hz => e3 0 d rfl (by omega) z hz) tk) (ih j _ q2 (by simpa using e1) (by simpa using e2) fun l d' hd hl z hz => e3 (l + 1) d' (by simpa using hd) (by omega) z hz)
    exact gen i vs cs' h2 e hu fun l d hd hl z hz => off z (List.mem_cons_of_mem _ (fps_mem hd hz)) fun m => fps_off hd e hl n2 hz (at_fp h m)
end
/-! ### the world of a tree -/
def TWd (K : PySem.W.Frag) (v : V) (t : MT) : Wld where
  F := fun a => a ∈ t.fp
  ok := fun H => Rp K H v t ∧ t.fp.Nodup
  dom := fun H a h f => h.1.dom a f
  stay := fun H H' h k t => ⟨h.1.stay k t, h.2⟩
theorem tree_step {K : PySem.W.Frag} {H H1 : Hp} {v : V} {t : MT} {p : List Nat} {a : Addr} {k k' : Knd} {cs cs' : List MT} {vs' : List V} (ok : (TWd K v t).ok H) (hat : MT.at_ p t = some (.n a k cs)) (e : Ex H H1)
    (hr : Rps K (upd H1 a (k'.ob vs')) vs' cs') (fit : k'.fits cs'.length) (nd : (MT.fps cs').Nodup) (hfp : ∀ b ∈ MT.fps cs', b ∈ MT.fps cs ∨ H b = none) :
    WStep (TWd K v t) (· = TWd K v (MT.put (.n a k' cs') p t)) H (upd H1 a (k'.ob vs')) := by
  obtain ⟨r, n⟩ := ok
  have ha : a ∈ t.fp := at_fp hat (by simp [MT.fp])
  obtain ⟨u, ru⟩ := r.sub hat
  obtain ⟨rfl, _, vs, h1, _⟩ := ru.un
  have n0 := at_nd hat n
  obtain ⟨na, nc⟩ := List.nodup_cons.mp (show (a :: MT.fps cs).Nodup from n0)
  have h1' : H1 a = some (k.ob vs) := e _ _ h1
  have tk : Tk H (upd H1 a (k'.ob vs')) := e.te.tr (Tk.up (fun xs z => Knd.noTup (h1'.symm.trans z)) fun o xs z => Knd.noFrz (h1'.symm.trans z))
  have na' : a ∉ MT.fps cs' := fun m => by
    rcases hfp a m with q | q
    · exact na q
    · rw [h1] at q; cases q
  refine ⟨fun b o hb nf => ?_, tk, _, rfl, ⟨?_, ?_⟩, fun b f => ?_⟩
  · rw [upd_ne (fun z => nf (by rw [z]; exact ha))]; exact e b o hb
  · refine Rp.put tk (.n upd_same fit hr) r n hat fun b m z => ?_
    obtain ⟨o, ho⟩ := r.dom b m
    rw [upd_ne (fun q => z (by rw [q]; simp [MT.fp])), e b o ho, ho]
  · refine put_nd hat n (List.nodup_cons.mpr ⟨na', nd⟩) fun b m => ?_
    simp only [MT.fp, List.mem_cons] at m ⊢
    rcases m with m | m
    · exact .inl (.inl m)
    · rcases hfp b m with q | q
      · exact .inl (.inr q)
      · exact .inr fun f => by
          obtain ⟨o, ho⟩ := r.dom b f
          rw [q] at ho; cases ho
  · rcases put_mem hat f with q | q
    · exact .inl q
    · simp only [MT.fp, List.mem_cons] at q
      rcases q with rfl | q
      · exact .inl ha
      · rcases hfp b q with z | z
        · exact .inl (at_fp hat (by simp [MT.fp, z]))
        · exact .inr z
/-! ### reading -/
/-- the node at a is known -/
def At (X : Cx) (ρ : List Sl) (a : Addr) (k : Knd) (cs : List MT) : Prop := HF X ρ fun H => k.fits cs.length ∧ ∃ vs, H a = some (k.ob vs) ∧ Rps X.K H vs cs
theorem At.mk {X : Cx} {ρ : List Sl} {v : V} {t : MT} {a : Addr} {k : Knd} {cs : List MT} (p : List Nat) (h : HF X ρ (TWd X.K v t).ok) (hat : MT.at_ p t = some (.n a k cs) := by rfl) : At X ρ a k cs := fun σ H ev => by
  obtain ⟨r, n⟩ := h σ H ev
  obtain ⟨u, ru⟩ := r.sub hat
  exact ru.un.2
def slM : MT → Sl
  | .d x => .d x
  | .n a _ _ => .r (.ref a)
theorem Rp.slv {K : PySem.W.Frag} {H : Hp} {v : V} {c : MT} (h : Rp K H v c) : SlV K H v (slM c) := by
  cases c with
  | d x => exact h.und
  | n a k cs => exact h.un.1
def keyIx (ks : List L2.Key) (k : L2.Key) : Option Nat := ks.findIdx? fun x => decide (x = k)
theorem valV_zip {κ : Type} [DecidableEq κ] {k : κ} : ∀ {ks : List κ} {vs : List V} {i : Nat} {v : V}, (ks.findIdx? fun x => decide (x = k)) = some i → vs[i]? = some v → ks.length = vs.length → valV (ks.zip vs) k = some v
  | [], _, _, _, h, _, _ => by simp at h
  | x :: ks, [], _, _, _, h, _ => by simp at h
  | x :: ks, u :: vs, i, v, h, hv, hl => by
    rw [List.findIdx?_cons] at h
    by_cases e : x = k
    · simp only [e, decide_true, if_true, Option.some.injEq] at h
      subst h
      simp at hv
      subst hv
      exact valV_pos (p := (x, u)) e
    · simp only [e, decide_false, Bool.false_eq_true, if_false, Option.map_eq_some_iff] at h
      obtain ⟨j, hj, rfl⟩ := h
      rw [List.zip_cons_cons, valV_neg (p := (x, u)) e]
      exact valV_zip hj (by simpa using hv) (by simpa using hl)
section
variable {X : Cx} {ρ : List Sl} {a b c e o : Expr} {es : List Expr} {pos p2 p apos cpos : Pos}
theorem ev_key {t : Addr} {ks : List L2.Key} {cs : List MT} {k : L2.Key} {i : Nat} {x : MT} (hu : X.A.units + 1 < cLine) (ho : EV X ρ o (.r (.ref t))) (hk : ED X ρ e (kD k)) (h : At X ρ t (.dk ks) cs) (hi : keyIx ks k = some i := by rfl) (hx : cs[i]? = some x := by rfl) (hs : NoSl e := by exact fun _ _ => rfl) : EV X ρ (.Subscript o e pos) (slM x) :=
  ev_dget hu ho hk (fun σ H ev => by
    obtain ⟨f, vs, h1, h2⟩ := h σ H ev
    obtain ⟨v, h3, h4⟩ := h2.at_ hx
    exact ⟨_, v, h1, valV_zip hi h3 (by rw [h2.len]; exact f), h4.slv⟩) hs
theorem ev_idx {t : Addr} {cs : List MT} {n : Nat} {x : MT} (ho : EV X ρ o (.r (.ref t))) (hk : ED X ρ e (dI n)) (h : At X ρ t .lst cs) (hx : cs[n]? = some x) (hs : PlainIx e := by exact fun _ _ => rfl) : EV X ρ (.Subscript o e pos) (slM x) :=
  ev_lix ho hk (fun σ H ev => by
    obtain ⟨f, vs, h1, h2⟩ := h σ H ev
    obtain ⟨v, h3, h4⟩ := h2.at_ hx
    exact ⟨_, v, h1, h3, h4.slv⟩) hs
theorem er_at {t : Addr} {ds : List PyData} (ho : EV X ρ e (.r (.ref t))) (h : At X ρ t .lst (ds.map MT.d)) : ER X ρ e ds := er_lst ho fun σ H ev => by
  obtain ⟨f, vs, h1, h2⟩ := h σ H ev
  exact ⟨vs, h1, h2.dts⟩
theorem ed_lenAt {t : Addr} {cs : List MT} (hm : X.mg "len" = none) (ho : EV X ρ a (.r (.ref t))) (h : At X ρ t .lst cs) (hg : Gl X "len" := by rfl) (he : starEach [a] X.env = (false, eval a X.env) :: starEach [] X.env := by rfl) (hpl : (backTo pos (starEach [] X.env)).any (·.1) = false := by rfl) : ED X ρ (.Call (.Name "len" p) [a] [] pos) (dI cs.length) :=
  ed_lenR hm ho (fun σ H ev => by
    obtain ⟨f, vs, h1, h2⟩ := h σ H ev
    exact ⟨vs, h1, h2.len⟩) hg he hpl
end
end TC
set_option Elab.async false
set_option linter.all false
set_option maxRecDepth 100000
set_option maxHeartbeats 4000000
/-! Trees, part 2: changes. -/
namespace TC
open PySem L2
section
variable {K : PySem.W.Frag} {H H' : Hp}
theorem Rp.ex {v : V} {t : MT} (h : Rp K H v t) (e : Ex H H') : Rp K H' v t := h.stay (fun a m => by
  obtain ⟨o, q⟩ := h.dom a m
  rw [q, e _ _ q]) e.te
theorem Rps.ex {vs : List V} {cs : List MT} (h : Rps K H vs cs) (e : Ex H H') : Rps K H' vs cs := h.stay (fun a m => by
  obtain ⟨o, q⟩ := h.dom a m
  rw [q, e _ _ q]) e.te
theorem zip_put {κ : Type} [DecidableEq κ] {k : κ} {u : V} : ∀ {ks : List κ} {vs : List V} {i : Nat}, (ks.findIdx? fun x => decide (x = k)) = some i → ks.Nodup → ks.length = vs.length → putK (ks.zip vs) k u = ks.zip (vs.set i u) := by
  have rest : ∀ (ks : List κ) (vs : List V), k ∉ ks → (ks.zip vs).map (fun kv => if kv.1 = k then (kv.1, u) else kv) = ks.zip vs := by
    intro ks
    induction ks with
    | nil => intro vs _; rfl
    | cons x ks ih =>
      intro vs h
      cases vs with
      | nil => rfl
      | cons v vs =>
        rw [List.zip_cons_cons, List.map_cons, ih vs (fun m => h (List.mem_cons_of_mem _ m)), if_neg (fun q : x = k => h (by rw [q]; exact List.mem_cons_self))]
  have main : ∀ (ks : List κ) (vs : List V) (i : Nat), (ks.findIdx? fun x => decide (x = k)) = some i → ks.Nodup → ks.length = vs.length → (ks.zip vs).any (fun kv => decide (kv.1 = k)) = true ∧ (ks.zip vs).map (fun kv => if kv.1 = k then (kv.1, u) else kv) = ks.zip (vs.set i u) := by
    intro ks
    induction ks with
    | nil => intro vs i h; simp at h
    | cons x ks ih =>
      intro vs i h nd hl
      cases vs with
      | nil => simp at hl
      | cons v vs =>
        rw [List.findIdx?_cons] at h
        obtain ⟨n1, n2⟩ := List.nodup_cons.mp nd
        by_cases e : x = k
        · simp only [e, decide_true, if_true, Option.some.injEq] at h
          subst h
          subst e
          refine ⟨by simp, ?_⟩
          rw [List.zip_cons_cons, List.map_cons, rest ks vs n1, if_pos rfl]
          rfl
        · simp only [e, decide_false, Bool.false_eq_true, if_false, Option.map_eq_some_iff] at h
          obtain ⟨j, hj, rfl⟩ := h
          obtain ⟨h1, h2⟩ := ih vs j hj n2 (by simpa using hl)
          refine ⟨by rw [List.zip_cons_cons, List.any_cons, h1, Bool.or_true], ?_⟩
          rw [List.zip_cons_cons, List.map_cons, h2, if_neg e]
          rfl
  intro ks vs i h nd hl
  obtain ⟨h1, h2⟩ := main ks vs i h nd hl
  unfold putK
  rw [if_pos h1, h2]
theorem fps_app_nd {cs : List MT} {c : MT} (n : (MT.fps cs).Nodup) (nc : c.fp.Nodup) (h : ∀ b ∈ c.fp, b ∉ MT.fps cs) : (MT.fps (cs ++ [c])).Nodup := by
  rw [fps_app]
  refine List.nodup_append.mpr ⟨n, by simpa [MT.fps] using nc, fun a ha b hb q => ?_⟩
  subst q
  exact h a (by simpa [MT.fps] using hb) ha
/-- a node's new content, its things as they stand ahead of the store -/
theorem tree_ch {H3 : Hp} {v : V} {t : MT} {p : List Nat} {a : Addr} {k k' : Knd} {cs cs' : List MT} {vs' : List V} (ok : (TWd K v t).ok H) (hat : MT.at_ p t = some (.n a k cs)) (e : Ex H H3)
    (hr : Rps K H3 vs' cs') (fit : k'.fits cs'.length) (nd : (MT.fps cs').Nodup) (hfp : ∀ b ∈ MT.fps cs', b ∈ MT.fps cs ∨ H b = none) :
    WStep (TWd K v t) (· = TWd K v (MT.put (.n a k' cs') p t)) H (upd H3 a (k'.ob vs')) := by
  obtain ⟨u, ru⟩ := ok.1.sub hat
  obtain ⟨rfl, _, vs, h1, _⟩ := ru.un
  have h3 : H3 a = some (k.ob vs) := e _ _ h1
  obtain ⟨na, _⟩ := List.nodup_cons.mp (show (a :: MT.fps cs).Nodup from at_nd hat ok.2)
  refine tree_step ok hat e (hr.stay (fun b m => upd_ne fun q => ?_) (Tk.up (fun xs z => Knd.noTup (h3.symm.trans z)) fun o xs z => Knd.noFrz (h3.symm.trans z))) fit nd hfp
  subst q
  rcases hfp b m with q | q
  · exact na q
  · rw [h1] at q; cases q
end
/-- e makes a tree of Φ of its own -/
def EN (X : Cx) (ρ : List Sl) (e : Expr) (Φ : MT → Prop) : Prop := ∀ σ H, Env X.K H σ ρ → ∀ Q : VK, (∀ v H' c, Ex H H' → Rp X.K H' v c → (∀ b ∈ c.fp, H b = none) → c.fp.Nodup → Φ c → Q v H') → wE X e σ H Q
section
variable {X : Cx} {ρ : List Sl} {a b c e f o x : Expr} {es : List Expr} {pos p2 p pos' apos cpos : Pos} {st : Stmt} {rest : List Stmt} {N : List Sl → Prop} {R : Sl → List Sl → Prop} {Φ : MT → Prop}
theorem en_d {d : PyData} (h : ED X ρ e d) : EN X ρ e (· = .d d) := fun σ H ev Q q => h σ H ev _ fun v H1 e1 o1 => q v H1 (.d d) e1 (.d o1) (fun b m => by simp [MT.fp] at m) (by simp [MT.fp]) rfl
/-- [..] of data -/
theorem en_l {ds : List PyData} (h : EV X ρ e (.l ds)) : EN X ρ e (fun c => ∃ q, c = .n q .lst (ds.map MT.d)) := fun σ H ev Q q => h σ H ev _ fun v H1 e1 o1 => by
  obtain ⟨r, vs, rfl, h1, h2, h3⟩ := o1
  refine q _ H1 (.n r .lst (ds.map MT.d)) e1 (.n h2 trivial h3.rps) (fun b m => ?_) (by simp [MT.fp, fps_d]) ⟨r, rfl⟩
  simp only [MT.fp, fps_d, List.mem_singleton] at m
  rw [m]; exact h1
theorem en_dk : EN X ρ (.Dict [] [] pos) (fun c => ∃ q, c = .n q (.dk []) []) := fun σ H ev Q q => wE_of pe_dnewK fun r hr =>
  q _ _ (.n r (.dk []) []) (Ex.up hr) (.n upd_same rfl .nil) (fun b m => by simp only [MT.fp, MT.fps, List.mem_singleton] at m; rw [m]; exact hr) (by simp [MT.fp, MT.fps]) ⟨r, rfl⟩
theorem en_dt : EN X ρ (.Dict [] [] pos) (fun c => ∃ q, c = .n q (.dt []) []) := fun σ H ev Q q => wE_of pe_dnewT fun r hr =>
  q _ _ (.n r (.dt []) []) (Ex.up hr) (.n upd_same rfl .nil) (fun b m => by simp only [MT.fp, MT.fps, List.mem_singleton] at m; rw [m]; exact hr) (by simp [MT.fp, MT.fps]) ⟨r, rfl⟩
/-- o[k] = x, k a key that is there -/
theorem sjs_tkey (i : Nat) {v : V} {t : MT} {pth : List Nat} {q : Addr} {ks : List L2.Key} {cs : List MT} {k : L2.Key} {j : Nat} (hu : X.A.units + 1 < cLine) (h0 : ρ[i]? = some (.w v (TWd X.K v t))) (ho : EV X ρ o (.r (.ref q))) (hk : ED X ρ e (kD k)) (hv : EN X ρ x Φ) (hat : MT.at_ pth t = some (.n q (.dk ks) cs))
    (tt : ∀ c, Φ c → SJs X (ρ.set i (.w v (TWd X.K v (MT.put (.n q (.dk ks) (cs.set j c)) pth t)))) rest N R) (hj : keyIx ks k = some j := by rfl) (nd : ks.Nodup := by decide +kernel) (hz : ks.length < sizeLine := by decide +kernel)
    (hs : swapsWith x (some (.Subscript o e pos')) pos.line X.env = pure false := by rfl) : SJs X ρ (.Assign [.Subscript o e pos'] x pos :: rest) N R :=
  sjs_w i (P := fun W' => ∃ c, Φ c ∧ W' = TWd X.K v (MT.put (.n q (.dk ks) (cs.set j c)) pth t)) h0 (fun σ H D ev kk => wS_of (ps_dput hu pe_w pe_w pe_w hs) (hv σ H ev _ fun u H1 c e1 rp fr ndc hΦ => ho σ H1 (ev.ex e1) _ fun w H2 e2 o2 => hk σ H2 (ev.ex (e1.tr e2)) _ fun y H3 e3 o3 => by
    cases (show w = .ref q from o2)
    have ok := (ev.sl i _ h0).2
    have ex3 := (e1.tr e2).tr e3
    obtain ⟨u', ru⟩ := (Wld.ex (W := TWd X.K v t) ok ex3).1.sub hat
    obtain ⟨rfl, ft, vs, h1, h2⟩ := ru.un
    obtain ⟨u0, ru0⟩ := ok.1.sub hat
    obtain ⟨_, _, vs0, _, h20⟩ := ru0.un
    obtain ⟨na, nc⟩ := List.nodup_cons.mp (show (q :: MT.fps cs).Nodup from at_nd hat ok.2)
    have hl : ks.length = vs.length := by rw [h2.len]; exact ft
    have hjl : j < cs.length := by
      have : j < ks.length := by
        obtain ⟨z, _⟩ := List.findIdx?_eq_some_iff_getElem.mp hj
        exact z
      rw [← show ks.length = cs.length from ft]; exact this
    refine ⟨q, upd H3 q (.dK (putK (ks.zip vs) k u)), rfl, .inl ⟨_, k, h1, dt_kV o3, by rw [List.length_zip]; omega, rfl⟩, ?_⟩
    rw [zip_put hj nd hl]
    have ws := tree_ch (k' := .dk ks) (cs' := cs.set j c) (vs' := vs.set j u) ok hat ex3 (h2.set (rp.ex (e2.tr e3)) j) (by show ks.length = _; rw [List.length_set]; exact ft)
      (fps_set_nd (List.getElem?_eq_getElem hjl) nc ndc fun b m => .inr fun z => by
        obtain ⟨oo, ho⟩ := h20.dom b z
        rw [fr b m] at ho; cases ho) (fun b m => (fps_set_mem m).elim (fun z => .inr (fr b z)) .inl)
    exact kk _ ⟨ws.off, ws.tk, by obtain ⟨W', hW, h5⟩ := ws.nw; exact ⟨W', ⟨c, hΦ, hW⟩, h5⟩⟩)) fun W' h => by
    obtain ⟨c, hΦ, rfl⟩ := h
    exact tt c hΦ
/-- o[j] = x, o a list -/
theorem sjs_tidx (i : Nat) {v : V} {t : MT} {pth : List Nat} {q : Addr} {cs : List MT} {j : Nat} (h0 : ρ[i]? = some (.w v (TWd X.K v t))) (ho : EV X ρ o (.r (.ref q))) (hk : ED X ρ e (dI j)) (hv : EN X ρ x Φ) (hat : MT.at_ pth t = some (.n q .lst cs)) (hjl : j < cs.length)
    (tt : ∀ c, Φ c → SJs X (ρ.set i (.w v (TWd X.K v (MT.put (.n q .lst (cs.set j c)) pth t)))) rest N R)
    (ha : ∀ v, assign (.Subscript o e pos') X.env v = (do
      let ov ← holding [v] (eval o X.env)
      let iv ← holding [v, ov] (eval e X.env)
      standAt pos'
      holding [v, ov, iv] (setItem ov iv v)
      release [v, ov, iv] []) := by intro _; rfl)
    (hs : swapsWithSole [.Subscript o e pos'] x pos.line X.env = pure false := by rfl) (hw : swappedStores [.Subscript o e pos'] x X.env = pure none := by rfl) (g1 : (assignEach [.Subscript o e pos'] X.env).map (·.2) = [assign (.Subscript o e pos') X.env] := by rfl) :
    SJs X ρ (.Assign [.Subscript o e pos'] x pos :: rest) N R :=
  sjs_w i (P := fun W' => ∃ c, Φ c ∧ W' = TWd X.K v (MT.put (.n q .lst (cs.set j c)) pth t)) h0 (fun σ H D ev kk => wS_of (ps_asg pe_w (pg_sub pe_w pe_w set_list ha) hs hw g1) (hv σ H ev _ fun u H1 c e1 rp fr ndc hΦ => ho σ H1 (ev.ex e1) _ fun w H2 e2 o2 => hk σ H2 (ev.ex (e1.tr e2)) _ fun y H3 e3 o3 => by
    cases (show w = .ref q from o2)
    have ok := (ev.sl i _ h0).2
    have ex3 := (e1.tr e2).tr e3
    obtain ⟨u', ru⟩ := (Wld.ex (W := TWd X.K v t) ok ex3).1.sub hat
    obtain ⟨rfl, ft, vs, h1, h2⟩ := ru.un
    obtain ⟨u0, ru0⟩ := ok.1.sub hat
    obtain ⟨_, _, vs0, _, h20⟩ := ru0.un
    obtain ⟨na, nc⟩ := List.nodup_cons.mp (show (q :: MT.fps cs).Nodup from at_nd hat ok.2)
    have hlv : j < vs.length := by rw [h2.len]; exact hjl
    have ws := tree_ch (k' := .lst) (cs' := cs.set j c) (vs' := vs.set j u) ok hat ex3 (h2.set (rp.ex (e2.tr e3)) j) trivial
      (fps_set_nd (List.getElem?_eq_getElem hjl) nc ndc fun b m => .inr fun z => by
        obtain ⟨oo, ho⟩ := h20.dom b z
        rw [fr b m] at ho; cases ho) (fun b m => (fps_set_mem m).elim (fun z => .inr (fr b z)) .inl)
    refine ⟨q, vs, (j : Int), j, rfl, (show DT X.K H3 y (.int (j : Int)) from o3).of_int, h1, ?_, kk _ ⟨ws.off, ws.tk, by obtain ⟨W', hW, h5⟩ := ws.nw; exact ⟨W', ⟨c, hΦ, hW⟩, h5⟩⟩⟩
    unfold ixN
    rw [if_pos (by omega), if_pos (by omega), Int.toNat_natCast])) fun W' h => by
    obtain ⟨c, hΦ, rfl⟩ := h
    exact tt c hΦ
/-- o.append(e) -/
theorem sjs_tapp (i : Nat) {v : V} {t : MT} {pth : List Nat} {q : Addr} {cs : List MT} (h0 : ρ[i]? = some (.w v (TWd X.K v t))) (ho : EV X ρ o (.r (.ref q))) (hv : EN X ρ e Φ) (hat : MT.at_ pth t = some (.n q .lst cs)) (hz : cs.length < sizeLine)
    (tt : ∀ c, Φ c → SJs X (ρ.set i (.w v (TWd X.K v (MT.put (.n q .lst (cs ++ [c])) pth t)))) rest N R)
    (hs : swapsWith (.Call (.Attribute o "append" apos) [e] [] cpos) none pos.line X.env = pure false := by rfl) (hline : (apos.endLine == cpos.line) = true := by rfl) (he : starEach [e] X.env = (false, eval e X.env) :: starEach [] X.env := by rfl)
    (hfew : ((backTo cpos (starEach [e] X.env)).all (fun x => !x.1) && (backToKw cpos (keywordEach [] X.env)).all (fun x => x.1.isSome) && decide ([e].length + ([] : List Keyword).length + (if ([] : List Keyword).isEmpty then 0 else 1) < 30)) = true := by rfl)
    (hbase : attributeBase o "append" X.env (eval o X.env) = eval o X.env := by rfl) : SJs X ρ (.Expr (.Call (.Attribute o "append" apos) [e] [] cpos) pos :: rest) N R :=
  sjs_w i (P := fun W' => ∃ c, Φ c ∧ W' = TWd X.K v (MT.put (.n q .lst (cs ++ [c])) pth t)) h0 (fun σ H D ev kk => wS_of (ps_expr (pe_bm PySem.F.plainAttrs_list PySem.F.slot_list_append PySem.F.type_list_append mt_append pe_w (pa_cons pe_w pa_nil he) hbase hfew hline he) hs) (ho σ H ev _ fun w H1 e1 o1 => by
    cases (show w = .ref q from o1)
    have ok := (ev.sl i _ h0).2
    obtain ⟨u', ru⟩ := (Wld.ex (W := TWd X.K v t) ok e1).1.sub hat
    obtain ⟨rfl, ft, vs, h1, h2⟩ := ru.un
    obtain ⟨u0, ru0⟩ := ok.1.sub hat
    obtain ⟨_, _, vs0, _, h20⟩ := ru0.un
    obtain ⟨na, nc⟩ := List.nodup_cons.mp (show (q :: MT.fps cs).Nodup from at_nd hat ok.2)
    refine ⟨.inl ⟨rfl, vs, .of h1⟩, hv σ H1 (ev.ex e1) _ fun y H2 c e2 rp fr ndc hΦ => ?_⟩
    have fr0 : ∀ b ∈ c.fp, H b = none := fun b m => e1.back (fr b m)
    have ws := tree_ch (k' := .lst) (cs' := cs ++ [c]) (vs' := vs ++ [y]) ok hat (e1.tr e2) ((h2.ex e2).app (.one rp)) trivial
      (fps_app_nd nc ndc fun b m z => by
        obtain ⟨oo, ho⟩ := h20.dom b z
        rw [fr0 b m] at ho; cases ho) (fun b m => by
        rw [fps_app] at m
        rcases List.mem_append.mp m with m | m
        · exact .inl m
        · exact .inr (fr0 b (by simpa [MT.fps] using m)))
    exact ⟨q, vs, y, rfl, rfl, e2 _ _ h1, by rw [h2.len]; exact hz, kk _ ⟨ws.off, ws.tk, by obtain ⟨W', hW, h5⟩ := ws.nw; exact ⟨W', ⟨c, hΦ, hW⟩, h5⟩⟩⟩)) fun W' h => by
    obtain ⟨c, hΦ, rfl⟩ := h
    exact tt c hΦ
/-! ### expressions that change a tree -/
theorem ew_w (i : Nat) {v : V} {W : Wld} {P : PyData → Wld → Prop} {RR : PyData → List Sl → Prop} (h0 : ρ[i]? = some (.w v W)) (run : ∀ σ H (Q : VK), Env X.K H σ ρ → (∀ u H' d, WStep W (P d) H H' → DT X.K H' u d → Q u H') → wE X e σ H Q) (hr : ∀ d W', P d W' → RR d (ρ.set i (.w v W'))) : EW X ρ e RR := fun B F σ H ev Q k =>
  run σ H Q ev.env fun u H' d ws dt => by
    obtain ⟨W', h1, h2, h3⟩ := ws.nw
    exact k u H' d _ (ev.mutW h0 ws.off ws.tk h2 h3) ws.tk dt (hr d W' h1)
theorem sjs_exprW {RR : PyData → List Sl → Prop} (h : EW X ρ e RR) (t : ∀ d ρ', RR d ρ' → SJs X ρ' rest N R) (hs : swapsWith e none pos.line X.env = pure false := by rfl) : SJs X ρ (.Expr e pos :: rest) N R :=
  sjs_cons (M := fun ρ2 => ∃ d, RR d ρ2) (fun B F σ H ev D k r => wS_of (ps_expr pe_w hs) (h B F σ H ev _ fun v H1 d ρ' ev1 t1 o1 hR => k σ H1 ρ' ev1 t1 ⟨d, hR⟩)) fun ρ2 m => by
    obtain ⟨d, hR⟩ := m
    exact t d ρ2 hR
theorem eraseIdx_dts {K : PySem.W.Frag} {H : Hp} : ∀ {vs : List V} {ds : List PyData} (n : Nat), DTs K H vs ds → DTs K H (vs.eraseIdx n) (ds.eraseIdx n)
  | _, _, 0, .nil => .nil
  | _, _, _ + 1, .nil => .nil
  | _, _, 0, .cons _ t => t
  | _, _, n + 1, .cons h t => .cons h (eraseIdx_dts n t)
/-- o.pop(j), o a list of data -/
theorem ew_tpop (i : Nat) {v : V} {t : MT} {pth : List Nat} {q : Addr} {ds : List PyData} {j : Nat} {d : PyData} {RR : PyData → List Sl → Prop} (h0 : ρ[i]? = some (.w v (TWd X.K v t))) (ho : EV X ρ o (.r (.ref q))) (hk : ED X ρ e (dI j)) (hat : MT.at_ pth t = some (.n q .lst (ds.map MT.d))) (hd : ds[j]? = some d)
    (hr : RR d (ρ.set i (.w v (TWd X.K v (MT.put (.n q .lst ((ds.eraseIdx j).map MT.d)) pth t))))) (hj : j < 2 ^ 62 := by omega)
    (hline : (apos.endLine == cpos.line) = true := by rfl) (he : starEach [e] X.env = (false, eval e X.env) :: starEach [] X.env := by rfl)
    (hfew : ((backTo cpos (starEach [e] X.env)).all (fun x => !x.1) && (backToKw cpos (keywordEach [] X.env)).all (fun x => x.1.isSome) && decide ([e].length + ([] : List Keyword).length + (if ([] : List Keyword).isEmpty then 0 else 1) < 30)) = true := by rfl)
    (hbase : attributeBase o "pop" X.env (eval o X.env) = eval o X.env := by rfl) : EW X ρ (.Call (.Attribute o "pop" apos) [e] [] cpos) RR :=
  ew_w i (P := fun d' W' => d' = d ∧ W' = TWd X.K v (MT.put (.n q .lst ((ds.eraseIdx j).map MT.d)) pth t)) h0 (fun σ H Q ev kk => wE_of (pe_bm PySem.F.plainAttrs_list PySem.F.slot_list_pop PySem.F.type_list_pop mt_popAt pe_w (pa_cons pe_w pa_nil he) hbase hfew hline he) (ho σ H ev _ fun w H1 e1 o1 => by
    cases (show w = .ref q from o1)
    have ok := (ev.sl i _ h0).2
    obtain ⟨u', ru⟩ := (Wld.ex (W := TWd X.K v t) ok e1).1.sub hat
    obtain ⟨rfl, ft, vs, h1, h2⟩ := ru.un
    have h2 := h2.dts
    refine ⟨.inl ⟨rfl, vs, .of h1⟩, hk σ H1 (ev.ex e1) _ fun y H2 e2 o2 => ?_⟩
    have h22 := h2.te e2.te
    obtain ⟨z, hz, dz⟩ := h22.at_ hd
    have hl : j < vs.length := (List.getElem?_eq_some_iff.mp hz).1
    have ws := tree_ch (k' := .lst) (cs' := (ds.eraseIdx j).map MT.d) (vs' := vs.eraseIdx j) ok hat (e1.tr e2) (eraseIdx_dts j h22).rps trivial (by rw [fps_d]; exact List.nodup_nil) (fun b m => by rw [fps_d] at m; cases m)
    refine ⟨q, vs, (j : Int), j, z, rfl, by rw [(show DT X.K H2 y (.int (j : Int)) from o2).of_int], e2 _ _ h1, by omega, by omega, ?_, hz, ?_⟩
    · unfold seqIndex?
      have c1 : ¬ ((j : Int) < 0) := by omega
      have c2 : ((j : Int) < ((vs.length : Nat) : Int)) := by omega
      simp [c1, c2]
    · exact kk z _ d ⟨ws.off, ws.tk, by obtain ⟨W', hW, h5⟩ := ws.nw; exact ⟨W', ⟨rfl, hW⟩, h5⟩⟩ (dz.te (Tk.upl (e2 _ _ h1))))) (fun d' W' h => by
    obtain ⟨rfl, rfl⟩ := h
    exact hr)
end
end TC
set_option Elab.async false
set_option linter.all false
set_option maxRecDepth 100000
set_option maxHeartbeats 4000000
/-! Trees, part 3: dicts of data; setdefault with a tuple for a key. -/
namespace TC
open PySem L2
def dN (q : Addr) (kvs : List (L2.Key × PyData)) : MT := .n q (.dk (kvs.map (·.1))) (kvs.map fun p => MT.d p.2)
abbrev KVD (K : PySem.W.Frag) (H : Hp) : List (L2.Key × V) → List (L2.Key × PyData) → Prop := Paired fun p q => p.1 = q.1 ∧ DT K H p.2 q.2
def findD (kvs : List (L2.Key × PyData)) (k : L2.Key) : Option PyData := (kvs.find? fun p => decide (p.1 = k)).map (·.2)
def putD (kvs : List (L2.Key × PyData)) (k : L2.Key) (d : PyData) : List (L2.Key × PyData) := if (kvs.any fun p => decide (p.1 = k)) = true then kvs.map (fun p => if p.1 = k then (p.1, d) else p) else kvs ++ [(k, d)]
def dropD (kvs : List (L2.Key × PyData)) (k : L2.Key) : List (L2.Key × PyData) := kvs.filter fun p => decide (p.1 ≠ k)
theorem fps_dN (kvs : List (L2.Key × PyData)) : MT.fps (kvs.map fun p => MT.d p.2) = [] := by
  have e : (kvs.map fun p => MT.d p.2) = (kvs.map (·.2)).map MT.d := by rw [List.map_map]; rfl
  rw [e, fps_d]
section
variable {K : PySem.W.Frag} {H H' : Hp}
theorem kvd_of : ∀ {kvs : List (L2.Key × PyData)} {vs : List V}, Rps K H vs (kvs.map fun p => MT.d p.2) → KVD K H ((kvs.map (·.1)).zip vs) kvs
  | [], [], _ => .nil
  | p :: kvs, v :: vs, .cons h t => .cons ⟨rfl, h.und⟩ (kvd_of t)
theorem kvd_back : ∀ {z : List (L2.Key × V)} {kvs : List (L2.Key × PyData)}, KVD K H z kvs → Rps K H (z.map (·.2)) (kvs.map fun p => MT.d p.2) ∧ (kvs.map (·.1)).zip (z.map (·.2)) = z
  | _, _, .nil => ⟨.nil, rfl⟩
  | p :: z, q :: kvs, .cons h t => by
    obtain ⟨h1, h2⟩ := kvd_back t
    refine ⟨.cons (.d h.2) h1, ?_⟩
    rw [List.map_cons, List.map_cons, List.zip_cons_cons, h2, ← h.1]
theorem kvd_at {q : Addr} {kvs : List (L2.Key × PyData)} {vs : List V} (h : Rps K H vs (kvs.map fun p => MT.d p.2)) (e : H q = some ((Knd.dk (kvs.map (·.1))).ob vs)) : ∃ z, H q = some (.dK z) ∧ KVD K H z kvs := ⟨_, e, kvd_of h⟩
theorem KVD.te (t : Tk H H') {z : List (L2.Key × V)} {kvs : List (L2.Key × PyData)} (h : KVD K H z kvs) : KVD K H' z kvs := L2.Paired.mapP h fun _ _ q => ⟨q.1, q.2.te t⟩
theorem KVD.val {k : L2.Key} {z : List (L2.Key × V)} {kvs : List (L2.Key × PyData)} (h : KVD K H z kvs) : (∀ d, findD kvs k = some d → ∃ v, valV z k = some v ∧ DT K H v d) ∧ (findD kvs k = none → valV z k = none) := by
  induction h with
  | nil => exact ⟨fun d q => by simp [findD] at q, fun _ => rfl⟩
  | @cons p q ps qs h t ih =>
    unfold findD at ih ⊢
    by_cases e : q.1 = k
    · have e' : p.1 = k := h.1.trans e
      rw [List.find?_cons]
      simp only [e, decide_true, Option.map_some, Option.some.injEq]
      exact ⟨fun d hd => ⟨p.2, valV_pos e', hd ▸ h.2⟩, fun z => by cases z⟩
    · have e' : ¬ p.1 = k := fun z => e (h.1.symm.trans z)
      rw [List.find?_cons, valV_neg e']
      simp only [e, decide_false]
      exact ih
theorem KVD.put {k : L2.Key} {u : V} {d : PyData} (hu : DT K H u d) {z : List (L2.Key × V)} {kvs : List (L2.Key × PyData)} (h : KVD K H z kvs) : KVD K H (putK z k u) (putD kvs k d) := by
  have ha : (z.any fun kv => decide (kv.1 = k)) = kvs.any fun p => decide (p.1 = k) := by
    induction h with
    | nil => rfl
    | cons h t ih => rw [List.any_cons, List.any_cons, ih, h.1]
  unfold putK putD
  rw [ha]
  split
  · clear ha
    rename_i q
    clear q
    induction h with
    | nil => exact .nil
    | @cons p q ps qs h t ih =>
      rw [List.map_cons, List.map_cons]
      refine .cons ?_ ih
      by_cases e : q.1 = k
      · rw [if_pos e, if_pos (h.1.trans e)]; exact ⟨h.1, hu⟩
      · rw [if_neg e, if_neg (fun z => e (h.1.symm.trans z))]; exact h
  · exact paired_snoc h ⟨rfl, hu⟩
theorem KVD.drop {k : L2.Key} {z : List (L2.Key × V)} {kvs : List (L2.Key × PyData)} (h : KVD K H z kvs) : KVD K H (dropK z k) (dropD kvs k) := by
  unfold dropK dropD
  induction h with
  | nil => exact .nil
  | @cons p q ps qs h t ih =>
    rw [List.filter_cons, List.filter_cons]
    by_cases e : q.1 = k
    · have e' : p.1 = k := h.1.trans e
      simp only [e, e', ne_eq, not_true_eq_false, decide_false, Bool.false_eq_true, if_false]
      exact ih
    · have e' : ¬ p.1 = k := fun z => e (h.1.symm.trans z)
      simp only [e, e', ne_eq, not_false_eq_true, decide_true, if_true]
      exact .cons h ih
theorem tree_dN {H3 : Hp} {v : V} {t : MT} {pth : List Nat} {q : Addr} {kvs kvs' : List (L2.Key × PyData)} {z' : List (L2.Key × V)} (ok : (TWd K v t).ok H) (hat : MT.at_ pth t = some (dN q kvs)) (e : Ex H H3) (h : KVD K H3 z' kvs') :
    WStep (TWd K v t) (· = TWd K v (MT.put (dN q kvs') pth t)) H (upd H3 q (.dK z')) := by
  obtain ⟨b1, b2⟩ := kvd_back h
  have ws := tree_ch (k' := .dk (kvs'.map (·.1))) (cs' := kvs'.map fun p => MT.d p.2) (vs' := z'.map (·.2)) ok hat e b1 (by show (kvs'.map (·.1)).length = _; rw [List.length_map, List.length_map]) (by rw [fps_dN]; exact List.nodup_nil) (fun b m => by rw [fps_dN] at m; cases m)
  have e2 : (Knd.dk (kvs'.map (·.1))).ob (z'.map (·.2)) = .dK z' := congrArg HO.dK b2
  rw [e2] at ws
  exact ws
end
section
variable {X : Cx} {ρ : List Sl} {a b c e f o x : Expr} {es : List Expr} {pos p2 p pos' apos cpos : Pos} {st : Stmt} {rest : List Stmt} {N : List Sl → Prop} {R : Sl → List Sl → Prop} {Φ : MT → Prop}
/-- the dict node at q is known -/
def AtD (X : Cx) (ρ : List Sl) (q : Addr) (kvs : List (L2.Key × PyData)) : Prop := HF X ρ fun H => ∃ z, H q = some (.dK z) ∧ KVD X.K H z kvs
theorem AtD.mk {v : V} {t : MT} {q : Addr} {kvs : List (L2.Key × PyData)} (pth : List Nat) (h : HF X ρ (TWd X.K v t).ok) (hat : MT.at_ pth t = some (dN q kvs)) : AtD X ρ q kvs := fun σ H ev => by
  obtain ⟨f, vs, h1, h2⟩ := At.mk pth h hat σ H ev
  exact kvd_at h2 h1
theorem ed_dkey {q : Addr} {kvs : List (L2.Key × PyData)} {k : L2.Key} {d : PyData} (hu : X.A.units + 1 < cLine) (ho : EV X ρ o (.r (.ref q))) (hk : ED X ρ e (kD k)) (h : AtD X ρ q kvs) (hd : findD kvs k = some d) (hs : NoSl e := by exact fun _ _ => rfl) : ED X ρ (.Subscript o e pos) d :=
  ev_dget (x := .d d) hu ho hk (fun σ H ev => by
    obtain ⟨z, h1, h2⟩ := h σ H ev
    obtain ⟨v, h3, h4⟩ := h2.val.1 d hd
    exact ⟨z, v, h1, h3, h4⟩) hs
theorem ed_dget2 {q : Addr} {kvs : List (L2.Key × PyData)} {k : L2.Key} {d : PyData} (hu : X.A.units + 1 < cLine) (ho : EV X ρ o (.r (.ref q))) (hk : ED X ρ e (kD k)) (hf : ED X ρ f d) (h : AtD X ρ q kvs) (m : M2 X o "get" apos e f cpos := by exact ⟨rfl, rfl, rfl, rfl⟩) : ED X ρ (.Call (.Attribute o "get" apos) [e, f] [] cpos) ((findD kvs k).getD d) := fun σ H ev Q q' =>
  wE_of (pe_dget2 hu pe_w pe_w pe_w m) (ho σ H ev _ fun v H1 e1 o1 => by
    cases (show v = .ref q from o1)
    obtain ⟨z1, g1, _⟩ := h σ H1 (ev.ex e1)
    refine ⟨q, rfl, .inl ⟨_, .inl g1⟩, hk σ H1 (ev.ex e1) _ fun y H2 e2 o2 => hf σ H2 (ev.ex (e1.tr e2)) _ fun w H3 e3 o3 => ?_⟩
    obtain ⟨z3, g3, k3⟩ := h σ H3 (ev.ex ((e1.tr e2).tr e3))
    refine ⟨_, .inl ⟨z3, k, .inl g3, dt_kV o2, rfl⟩, q' _ H3 ((e1.tr e2).tr e3) ?_⟩
    cases hd : findD kvs k with
    | none => rw [k3.val.2 hd]; exact o3
    | some d' =>
      obtain ⟨u, h1, h2⟩ := k3.val.1 d' hd
      rw [h1]; exact h2)
theorem td_din {q : Addr} {kvs : List (L2.Key × PyData)} {k : L2.Key} (hu : X.A.units + 1 < cLine) (hk : ED X ρ e (kD k)) (ho : EV X ρ o (.r (.ref q))) (h : AtD X ρ q kvs) (hm : behindInMarks .In o = false := by with_unfolding_all rfl) : TD X ρ (.Compare e [.In] [o] pos) (findD kvs k).isSome := fun σ H ev Q q' =>
  wT_of (pt_cmp (pc_din hu pe_w pe_w) hm) (hk σ H ev _ fun y H1 e1 o1 => ho σ H1 (ev.ex e1) _ fun v H2 e2 o2 => by
    cases (show v = .ref q from o2)
    obtain ⟨z, g1, g2⟩ := h σ H2 (ev.ex (e1.tr e2))
    refine ⟨q, _, rfl, .inl ⟨z, k, .inl g1, dt_kV o1, rfl⟩, ⟨_, rfl, ?_⟩⟩
    have e0 : (valV z k).isSome = (findD kvs k).isSome := by
      cases hd : findD kvs k with
      | none => rw [g2.val.2 hd]; rfl
      | some d' =>
        obtain ⟨u, h1, _⟩ := g2.val.1 d' hd
        rw [h1]; rfl
    rw [e0]
    exact q' H2 (e1.tr e2))
/-- o[e] = x, o a dict of data -/
theorem sjs_dput (i : Nat) {v : V} {t : MT} {pth : List Nat} {q : Addr} {kvs : List (L2.Key × PyData)} {k : L2.Key} {d : PyData} (hu : X.A.units + 1 < cLine) (h0 : ρ[i]? = some (.w v (TWd X.K v t))) (ho : EV X ρ o (.r (.ref q))) (hk : ED X ρ e (kD k)) (hv : ED X ρ x d) (hat : MT.at_ pth t = some (dN q kvs)) (hz : kvs.length < sizeLine)
    (tt : SJs X (ρ.set i (.w v (TWd X.K v (MT.put (dN q (putD kvs k d)) pth t)))) rest N R) (hs : swapsWith x (some (.Subscript o e pos')) pos.line X.env = pure false := by rfl) : SJs X ρ (.Assign [.Subscript o e pos'] x pos :: rest) N R :=
  sjs_w i (P := (· = TWd X.K v (MT.put (dN q (putD kvs k d)) pth t))) h0 (fun σ H D ev kk => wS_of (ps_dput hu pe_w pe_w pe_w hs) (hv σ H ev _ fun u H1 e1 o1 => ho σ H1 (ev.ex e1) _ fun w H2 e2 o2 => hk σ H2 (ev.ex (e1.tr e2)) _ fun y H3 e3 o3 => by
    cases (show w = .ref q from o2)
    have ex3 := (e1.tr e2).tr e3
    obtain ⟨z, g1, g2⟩ := AtD.mk pth (hf_w i h0) hat σ H3 (ev.ex ex3)
    refine ⟨q, upd H3 q (.dK (putK z k u)), rfl, .inl ⟨z, k, g1, dt_kV o3, by rw [Paired.length g2]; exact hz, rfl⟩, kk _ (tree_dN (ev.sl i _ h0).2 hat ex3 (g2.put ?_))⟩
    exact (show DT X.K H1 u d from o1).te (e2.tr e3).te)) fun W' h => by subst h; exact tt
def setdD (kvs : List (L2.Key × PyData)) (k : L2.Key) (d : PyData) : List (L2.Key × PyData) := if (findD kvs k).isSome then kvs else putD kvs k d
/-- o.setdefault(e, f), o a dict of data -/
theorem sjs_dsetd (i : Nat) {v : V} {t : MT} {pth : List Nat} {q : Addr} {kvs : List (L2.Key × PyData)} {k : L2.Key} {d : PyData} (h0 : ρ[i]? = some (.w v (TWd X.K v t))) (ho : EV X ρ o (.r (.ref q))) (hk : ED X ρ e (kD k)) (hv : ED X ρ f d) (hat : MT.at_ pth t = some (dN q kvs)) (hz : kvs.length < sizeLine) (hput : MT.put (dN q kvs) pth t = t)
    (tt : SJs X (ρ.set i (.w v (TWd X.K v (MT.put (dN q (setdD kvs k d)) pth t)))) rest N R) (m : M2 X o "setdefault" apos e f cpos := by exact ⟨rfl, rfl, rfl, rfl⟩) (hs : swapsWith (.Call (.Attribute o "setdefault" apos) [e, f] [] cpos) none pos.line X.env = pure false := by rfl) : SJs X ρ (.Expr (.Call (.Attribute o "setdefault" apos) [e, f] [] cpos) pos :: rest) N R :=
  sjs_w i (P := (· = TWd X.K v (MT.put (dN q (setdD kvs k d)) pth t))) h0 (fun σ H D ev kk => wS_of (ps_expr (pe_dsetd pe_w pe_w pe_w m) hs) (ho σ H ev _ fun w H1 e1 o1 => by
    cases (show w = .ref q from o1)
    obtain ⟨z1, g1, _⟩ := AtD.mk pth (hf_w i h0) hat σ H1 (ev.ex e1)
    refine ⟨q, rfl, .inl ⟨_, .inl g1⟩, hk σ H1 (ev.ex e1) _ fun y H2 e2 o2 => hv σ H2 (ev.ex (e1.tr e2)) _ fun u H3 e3 o3 => ?_⟩
    have ex3 := (e1.tr e2).tr e3
    have ev3 := ev.ex ex3
    obtain ⟨z, g3, g4⟩ := AtD.mk pth (hf_w i h0) hat σ H3 ev3
    refine ⟨z, k, g3, dt_kV o2, by rw [Paired.length g4]; exact hz, fun v' hv' => ?_, fun hn => ?_⟩
    · have hsome : (findD kvs k).isSome = true := by
        cases hd : findD kvs k with
        | none => rw [g4.val.2 hd] at hv'; cases hv'
        | some d' => rfl
      refine kk H3 ⟨fun b oo q _ => ex3 b oo q, ex3.te, _, rfl, ?_, fun b hb => ?_⟩
      · unfold setdD; rw [if_pos hsome, hput]; exact (ev3.sl i _ h0).2
      · unfold setdD at hb; rw [if_pos hsome, hput] at hb; exact .inl hb
    · have hnone : (findD kvs k).isSome = false := by
        cases hd : findD kvs k with
        | none => rfl
        | some d' =>
          obtain ⟨u', h1, _⟩ := g4.val.1 d' hd
          rw [h1] at hn; cases hn
      have e0 : setdD kvs k d = putD kvs k d := by unfold setdD; rw [hnone]; rfl
      rw [e0] at kk
      exact kk _ (tree_dN (ev.sl i _ h0).2 hat ex3 (g4.put (show DT X.K H3 u d from o3))))) fun W' h => by subst h; exact tt
theorem dropD_none {kvs : List (L2.Key × PyData)} {k : L2.Key} (h : findD kvs k = none) : dropD kvs k = kvs := by
  unfold findD at h
  unfold dropD
  rw [Option.map_eq_none_iff, List.find?_eq_none] at h
  exact List.filter_eq_self.mpr fun p hp => by simpa using h p hp
/-- o.pop(e, None), o a dict of data -/
theorem sjs_dpop (i : Nat) {v : V} {t : MT} {pth : List Nat} {q : Addr} {kvs : List (L2.Key × PyData)} {k : L2.Key} {d : PyData} (h0 : ρ[i]? = some (.w v (TWd X.K v t))) (ho : EV X ρ o (.r (.ref q))) (hk : ED X ρ e (kD k)) (hv : ED X ρ f d) (hat : MT.at_ pth t = some (dN q kvs)) (hput : MT.put (dN q kvs) pth t = t)
    (tt : SJs X (ρ.set i (.w v (TWd X.K v (MT.put (dN q (dropD kvs k)) pth t)))) rest N R) (m : M2 X o "pop" apos e f cpos := by exact ⟨rfl, rfl, rfl, rfl⟩) (hs : swapsWith (.Call (.Attribute o "pop" apos) [e, f] [] cpos) none pos.line X.env = pure false := by rfl) : SJs X ρ (.Expr (.Call (.Attribute o "pop" apos) [e, f] [] cpos) pos :: rest) N R :=
  sjs_w i (P := (· = TWd X.K v (MT.put (dN q (dropD kvs k)) pth t))) h0 (fun σ H D ev kk => wS_of (ps_expr (pe_dpop2 pe_w pe_w pe_w m) hs) (ho σ H ev _ fun w H1 e1 o1 => by
    cases (show w = .ref q from o1)
    obtain ⟨z1, g1, _⟩ := AtD.mk pth (hf_w i h0) hat σ H1 (ev.ex e1)
    refine ⟨q, rfl, .inl ⟨_, .inl g1⟩, hk σ H1 (ev.ex e1) _ fun y H2 e2 o2 => hv σ H2 (ev.ex (e1.tr e2)) _ fun u H3 e3 o3 => ?_⟩
    have ex3 := (e1.tr e2).tr e3
    have ev3 := ev.ex ex3
    obtain ⟨z, g3, g4⟩ := AtD.mk pth (hf_w i h0) hat σ H3 ev3
    refine ⟨z, k, g3, dt_kV o2, fun v' hv' => kk _ (tree_dN (ev.sl i _ h0).2 hat ex3 g4.drop), fun hn => ?_⟩
    have hnone : findD kvs k = none := by
      cases hd : findD kvs k with
      | none => rfl
      | some d' =>
        obtain ⟨u', h1, _⟩ := g4.val.1 d' hd
        rw [h1] at hn; cases hn
    refine kk H3 ⟨fun b oo q _ => ex3 b oo q, ex3.te, _, rfl, ?_, fun b hb => ?_⟩
    · rw [dropD_none hnone, hput]; exact (ev3.sl i _ h0).2
    · rw [dropD_none hnone, hput] at hb; exact .inl hb)) fun W' h => by subst h; exact tt
end
/-! ### setdefault with a tuple for a key -/
section
open PySem.Spec PyProof.Rows
variable {X : Cx} {pins : List (Addr × Obj)} {σ : L2.St} {H : Hp} {s : Shared} {a b : Addr} {r : Value} {d : V} {k : List L2.Key} {A : Around} {E : Value → Shared → Prop}
theorem d_setdT {kvs : List (List L2.Key × V)} {Q : Value → Shared → Prop} (hu : A.units + 1 < cLine) (I : Inv X pins σ H s) (e : H a = some (.dT kvs)) (eb : H b = some (.tup (k.map kV))) (rd : RelV d r) (hl : kvs.length < sizeLine)
    (h1 : ∀ v, valV kvs k = some v → ∀ (w' : Value) (s' : Shared), Inv X pins σ H s' → RelV v w' → Q w' s') (h2 : valV kvs k = none → ∀ (w' : Value) (s' : Shared), Inv X pins σ (upd H a (.dT (putK kvs k d))) s' → RelV d w' → Q w' s') :
    wpAny (model X.prog X.w) A (call (.builtin "dict.setdefault") [.ref a, .ref b, r]) Q E s := by
  obtain ⟨z, hd, xs, rel, dd⟩ := dt_of I.hok e
  have hz : xs.length ≤ sizeLine := by rw [← Paired.length rel]; exact z
  refine call_setdefault_heap (hsz := hz) (tupleKind_room_in1 hu) (key_of I.hok eb) hd dd (fun p hp => ?_) fun hn h' dd' hs => ?_
  · have q := rel.val k
    rw [hp] at q
    cases q0 : valV kvs k with
    | none => rw [q0] at q; exact (show False from q).elim
    | some v0 => rw [q0] at q; exact h1 v0 q0 _ _ (I.tok _) q
  · have q := rel.val k
    rw [hn] at q
    cases q0 : valV kvs k with
    | some v0 => rw [q0] at q; exact (show False from q).elim
    | none =>
      have hl2 : (putK kvs k d).length ≤ sizeLine := by have := length_putK kvs k d; omega
      refine h2 q0 _ _ ?_ rd
      obtain ⟨oo, es, ep, hq, g2, g3, g4, _, g5⟩ := dd'
      refine d_write I (by rw [e]; exact True.intro) hs ⟨oo, hq⟩ ⟨hl2, hd, _, (rel.put k eb rd).keeps fun c ys ec => ?_, oo, es, ep, hq, g2, g3, g4, g5⟩
      rw [upd_ne (ne_of ec e (fun z => nomatch z))]
      exact ec
end
def tDSetdT (td ty tx : TE) : TE := fun σ H Q => td σ H fun x H1 => ∃ a, x = .ref a ∧ IsD H1 a ∧ ty σ H1 fun y H2 => tx σ H2 fun z H3 => ∃ (kvs : List (List L2.Key × V)) (k : List L2.Key) (b : Addr), H3 a = some (.dT kvs) ∧ y = .ref b ∧ H3 b = some (.tup (k.map kV)) ∧ kvs.length < sizeLine ∧
  (∀ v, valV kvs k = some v → Q v H3) ∧ (valV kvs k = none → Q z (upd H3 a (.dT (putK kvs k z))))
section
open PySem.Spec PyProof.Rows
variable {X : Cx} {o e f : Expr} {td ty tx : TE} {apos cpos : Pos}
theorem pe_dsetdT (hu : X.A.units + 1 < cLine) (ho : PE X o td) (he : PE X e ty) (hf : PE X f tx) (m : M2 X o "setdefault" apos e f cpos) : PE X (.Call (.Attribute o "setdefault" apos) [e, f] [] cpos) (tDSetdT td ty tx) := by
  refine ⟨fun pins s σ H Q I h => ?_⟩
  refine wpAny_Call_method m.base m.few m.line PySem.F.plainAttrs_dict PySem.F.slot_dict_setdefault PySem.F.type_dict_setdefault (thn (ho.run pins s σ H _ I h) fun u s1 ⟨x, H1, I1, rx, a, ex, d, q1⟩ => ?_)
  subst ex
  obtain rfl : u = Value.ref a := rx
  obtain ⟨t1, t2, _⟩ := isD_at I1 d
  refine ⟨t1, t2, ?_⟩
  rw [m.trees]
  refine Calls.callWith_builtin rfl (Calls.evalArgs_plain (Calls.spliced_cons (thn (he.run pins s1 σ H1 _ I1 q1) fun iv s2 ⟨y, H2, I2, ry, q2⟩ =>
    Calls.spliced_cons (thn (hf.run pins s2 σ H2 _ I2 q2) fun fv s3 ⟨z, H3, I3, rz, kvs, k, b, ea, ey, eb, hl, q3, q4⟩ => Calls.spliced_nil ?_))))
  subst ey
  obtain rfl : iv = Value.ref b := ry
  exact d_setdT hu I3 ea eb rz hl (fun v hv w' s4 I4 rw' => ⟨v, _, I4, rw', q3 v hv⟩) fun hn w' s4 I4 rw' => ⟨z, _, I4, rw', q4 hn⟩
end
end TC
set_option Elab.async false
set_option linter.all false
set_option maxRecDepth 100000
set_option maxHeartbeats 4000000
/-! Trees, part 4: made by displays and comprehensions; handed back. -/
namespace TC
open PySem L2
/-- es make trees of their own -/
def AN (X : Cx) (ρ : List Sl) (es : List Expr) (Ψ : List MT → Prop) : Prop := ∀ σ H, Env X.K H σ ρ → ∀ Q : List V → Hp → Prop, (∀ vs H' cs, Ex H H' → Rps X.K H' vs cs → (∀ b ∈ MT.fps cs, H b = none) → (MT.fps cs).Nodup → Ψ cs → Q vs H') → wA X es σ H Q
/-- the pairs of a display -/
def DN (X : Cx) (ρ : List Sl) (pos : Pos) (keys : List (Option Expr)) (values : List Expr) (ks : List L2.Key) (Ψ : List MT → Prop) : Prop := ∃ trs, PPs X pos keys values trs ∧ ∀ σ H, Env X.K H σ ρ → ∀ Q : List (V × V) → Hp → Prop,
  (∀ vs H' cs, Ex H H' → Rps X.K H' vs cs → (∀ b ∈ MT.fps cs, H b = none) → (MT.fps cs).Nodup → vs.length = ks.length → Ψ cs → Q ((ks.map kV).zip vs) H') → tPairs trs σ H Q
theorem mergeK_nd {kvs : List (L2.Key × V)} (h : (kvs.map (·.1)).Nodup) : mergeK [] kvs = kvs := by
  unfold mergeK
  rw [putK_nd kvs [] (by simpa using h)]
  rfl
theorem zip_fst {α β : Type} : ∀ {as : List α} {bs : List β}, as.length = bs.length → (as.zip bs).map (·.1) = as
  | [], [], _ => rfl
  | a :: as, b :: bs, h => by rw [List.zip_cons_cons, List.map_cons, zip_fst (by simpa using h)]
theorem zip_kV : ∀ {ks : List L2.Key} {vs : List V}, (ks.map kV).zip vs = (ks.zip vs).map fun kv => (kV kv.1, kv.2)
  | [], _ => rfl
  | k :: ks, [] => rfl
  | k :: ks, v :: vs => by rw [List.map_cons, List.zip_cons_cons, List.zip_cons_cons, List.map_cons, zip_kV]
section
variable {X : Cx} {ρ : List Sl} {a b c e f o x : Expr} {es : List Expr} {pos p2 p pos' apos cpos : Pos} {st : Stmt} {rest : List Stmt} {N : List Sl → Prop} {R : Sl → List Sl → Prop} {Φ : MT → Prop} {Ψ : List MT → Prop}
theorem EN.imp {Φ' : MT → Prop} (h : EN X ρ e Φ) (i : ∀ c, Φ c → Φ' c) : EN X ρ e Φ' := fun σ H ev Q q => h σ H ev Q fun v H' c e1 r fr nd hc => q v H' c e1 r fr nd (i c hc)
theorem an_nil : AN X ρ [] (· = []) := fun σ H ev Q q => wA_of pa_nil (q [] H [] (Ex.rf H) .nil (fun b m => by simp [MT.fps] at m) (by simp [MT.fps]) rfl)
theorem fps_two {K : PySem.W.Frag} {H H1 H2 : Hp} {v : V} {c : MT} {cs : List MT} (r : Rp K H1 v c) (fr : ∀ b ∈ c.fp, H b = none) (nd : c.fp.Nodup) (e1 : Ex H H1) (fr2 : ∀ b ∈ MT.fps cs, H1 b = none) (nd2 : (MT.fps cs).Nodup) : (∀ b ∈ MT.fps (c :: cs), H b = none) ∧ (MT.fps (c :: cs)).Nodup := by
  constructor
  · intro b m
    simp only [MT.fps, List.mem_append] at m
    rcases m with m | m
    · exact fr b m
    · exact e1.back (fr2 b m)
  · refine List.nodup_append.mpr ⟨nd, nd2, fun x hx y hy q => ?_⟩
    subst q
    obtain ⟨o, ho⟩ := r.dom x hx
    rw [fr2 x hy] at ho; cases ho
theorem an_cons (h : EN X ρ e Φ) (t : AN X ρ es Ψ) (hs : starEach (e :: es) X.env = (false, eval e X.env) :: starEach es X.env := by rfl) : AN X ρ (e :: es) (fun cs => ∃ c r, cs = c :: r ∧ Φ c ∧ Ψ r) := fun σ H ev Q q =>
  wA_of (pa_cons pe_w pa_w hs) (h σ H ev _ fun v H1 c e1 r1 fr1 nd1 hc => t σ H1 (ev.ex e1) _ fun vs H2 cs e2 r2 fr2 nd2 hp => by
    obtain ⟨g1, g2⟩ := fps_two (H2 := H2) r1 fr1 nd1 e1 fr2 nd2
    exact q _ H2 (c :: cs) (e1.tr e2) (.cons (r1.ex e2) r2) g1 g2 ⟨c, cs, rfl, hc, hp⟩)
theorem en_lst (h : AN X ρ es Ψ) (hz : es.length ≤ 1000 := by decide) (hl : ∀ cs, Ψ cs → cs.length = es.length) : EN X ρ (.List es pos) (fun c => ∃ q cs, Ψ cs ∧ c = .n q .lst cs) := fun σ H ev Q q =>
  wE_of (pe_lst pa_w) (h σ H ev _ fun vs H1 cs e1 r1 fr1 nd1 hp => ⟨by rw [r1.len, hl cs hp]; have := sz; omega, fun n hn => by
    refine q (.ref n) _ (.n n .lst cs) (e1.tr (Ex.up hn)) (.n upd_same trivial (r1.ex (Ex.up hn))) (fun b m => ?_) ?_ ⟨n, cs, hp, rfl⟩
    · simp only [MT.fp, List.mem_cons] at m
      rcases m with rfl | m
      · exact e1.back hn
      · exact fr1 b m
    · refine List.nodup_cons.mpr ⟨fun m => ?_, nd1⟩
      obtain ⟨o, ho⟩ := r1.dom n m
      rw [hn] at ho; cases ho⟩)
theorem dn_nil : DN X ρ pos [] [] [] (· = []) := ⟨[], pps_nil, fun σ H ev Q q => q [] H [] (Ex.rf H) .nil (fun b m => by simp [MT.fps] at m) (by simp [MT.fps]) rfl rfl⟩
theorem dn_cons {k : Expr} {keys : List (Option Expr)} {values : List Expr} {ks : List L2.Key} {ky : L2.Key} (hk : ED X ρ k (kD ky)) (hv : EN X ρ e Φ) (t : DN X ρ pos keys values ks Ψ) : DN X ρ pos (some k :: keys) (e :: values) (ky :: ks) (fun cs => ∃ c r, cs = c :: r ∧ Φ c ∧ Ψ r) := by
  obtain ⟨trs, t1, t2⟩ := t
  refine ⟨_, pps_cons pe_w pe_w t1, fun σ H ev Q q => hk σ H ev _ fun u H0 e0 o0 => hv σ H0 (ev.ex e0) _ fun v H1 c e1 r1 fr1 nd1 hc => t2 σ H1 (ev.ex (e0.tr e1)) _ fun vs H2 cs e2 r2 fr2 nd2 hl hp => ?_⟩
  obtain ⟨g1, g2⟩ := fps_two (H2 := H2) r1 fr1 nd1 e1 fr2 nd2
  rw [show u = kV ky from dt_kV o0]
  exact q (v :: vs) H2 (c :: cs) ((e0.tr e1).tr e2) (.cons (r1.ex e2) r2) (fun b m => e0.back (g1 b m)) g2 (by simp [hl]) ⟨c, cs, rfl, hc, hp⟩
theorem en_disp {keys : List (Option Expr)} {values : List Expr} {ks : List L2.Key} (h : DN X ρ pos keys values ks Ψ) (hall : keys.all (·.isSome) = true := by rfl) (hl : keys.length = values.length := by rfl) (h0 : keys ≠ [] := by intro q; cases q) (h15 : keys.length ≤ 15 := by decide) (nd : ks.Nodup := by decide +kernel) (hk : ks.length ≤ 15 := by decide) :
    EN X ρ (.Dict keys values pos) (fun c => ∃ q cs, Ψ cs ∧ c = .n q (.dk ks) cs) := by
  obtain ⟨trs, t1, t2⟩ := h
  refine fun σ H ev Q q => wE_of (pe_disp t1 hall hl h0 h15) fun n hn => t2 σ _ (ev.ex (Ex.up hn)) _ fun vs H1 cs e1 r1 fr1 nd1 hlen hp => ?_
  have hn1 : H1 n = some (.dK []) := e1 _ _ upd_same
  have fz : (ks.zip vs).map (·.1) = ks := zip_fst hlen.symm
  refine ⟨hn1, ks.zip vs, zip_kV, by rw [List.length_zip]; omega, ?_⟩
  rw [mergeK_nd (by rw [fz]; exact nd)]
  have nn : n ∉ MT.fps cs := fun m => by
    have := fr1 n m
    rw [upd_same] at this; cases this
  have ex2 : Ex H (upd H1 n (.dK (ks.zip vs))) := ((Ex.up hn).tr e1).at_ hn
  refine q (.ref n) _ (.n n (.dk ks) cs) ex2 (.n upd_same (by show ks.length = cs.length; rw [← r1.len, hlen]) (r1.stay (fun b m => upd_ne fun z => nn (by rw [← z]; exact m)) (tk_dk hn1))) (fun b m => ?_) (List.nodup_cons.mpr ⟨nn, nd1⟩) ⟨n, cs, hp, rfl⟩
  simp only [MT.fp, List.mem_cons] at m
  rcases m with rfl | m
  · exact hn
  · exact (Ex.up hn).back (fr1 b m)
/-- a made tree is a world -/
theorem ex_en (h : EN X ρ e Φ) (hn : ∀ c, Φ c → ∃ q k cs, c = .n q k cs) : EX X ρ e (fun x => ∃ q k cs, Φ (.n q k cs) ∧ x = .w (.ref q) (TWd X.K (.ref q) (.n q k cs))) := fun σ H ev Q q => h σ H ev _ fun v H1 c e1 r1 fr1 nd1 hc => by
  obtain ⟨n, k, cs, rfl⟩ := hn c hc
  obtain ⟨rfl, _⟩ := r1.un
  exact q _ H1 (.w (.ref n) (TWd X.K (.ref n) (.n n k cs))) e1 ⟨rfl, ⟨r1, nd1⟩, fr1⟩ ⟨n, k, cs, hc, rfl⟩
/-- x[lo:hi] of a list of data: a list -/
theorem ev_slL {lo hi : Option Expr} {l u : Option Int} {ds : List PyData} {t : Addr} (ho : EV X ρ a (.r (.ref t))) (hf : HF X ρ fun H => ∃ vs, SqL X.K H t vs ∧ DTs X.K H vs ds) (hl : OD X ρ lo l) (hu : OD X ρ hi u) : EV X ρ (.Subscript a (.Slice lo hi none p2) pos) (.l (cutD ds l u)) := fun σ H ev Q q => by
  obtain ⟨tl, pl, rl⟩ := od_run hl
  obtain ⟨tu, pu, ru⟩ := od_run hu
  refine wE_of (pe_slice sl_list pe_w pl pu) (ho σ H ev _ fun v H1 e1 o1 => rl σ H1 (ev.ex e1) _ fun H2 e2 => ru σ H2 (ev.ex (e1.tr e2)) _ fun H3 e3 => ?_)
  cases (show v = .ref t from o1)
  obtain ⟨vs, h1, h2⟩ := hf σ H3 (ev.ex ((e1.tr e2).tr e3))
  exact ⟨t, vs, rfl, h1, fun n hn => q _ _ (((e1.tr e2).tr e3).tr (Ex.up hn)) ⟨n, _, rfl, ((e1.tr e2).tr e3).back hn, upd_same, (dts_cut h2 l u).te (Ex.up hn).te⟩⟩
/-- an own list is handed back -/
theorem sjs_retL (i : Nat) {x : Str} {ds : List PyData} (h : ρ[i]? = some (.l ds)) (hr : R (.l ds) ρ) (hv : PE X (.Name x p) (tVar i)) : SJs X ρ (.Return (some (.Name x p)) pos :: rest) N R :=
  sjs_cons (M := fun _ => False) (fun B F σ H ev D k r => wS_of (ps_ret hv) (by
    obtain ⟨l, vs, e1, e2, e3⟩ := ev.env.sl i _ h
    exact ⟨.ref l, e1, r (.ref l) H (.l ds) ρ (Tk.rf H) ⟨⟨σ, ev⟩, l, vs, rfl, e2, e3, (ev.own i _ l h e1).1⟩ hr⟩)) fun _ m => m.elim
end
end TC
set_option Elab.async false
set_option linter.all false
set_option maxRecDepth 100000
set_option maxHeartbeats 4000000
/-! Expressions that change the world of one slot. -/
namespace TC
open PySem L2
theorem WStep.pre {W : Wld} {P : Wld → Prop} {H H1 H2 : Hp} (e : Ex H H1) (w : WStep W P H1 H2) : WStep W P H H2 := ⟨fun a o h n => w.off a o (e a o h) n, e.te.tr w.tk, by
  obtain ⟨W', h1, h2, h3⟩ := w.nw
  exact ⟨W', h1, h2, fun a f => (h3 a f).imp id e.back⟩⟩
theorem WStep.post {W : Wld} {P : Wld → Prop} {H H1 H2 : Hp} (w : WStep W P H H1) (e : Ex H1 H2) : WStep W P H H2 := ⟨fun a o h n => e a o (w.off a o h n), w.tk.tr e.te, by
  obtain ⟨W', h1, h2, h3⟩ := w.nw
  exact ⟨W', h1, Wld.ex h2 e, h3⟩⟩
theorem WStep.imp {W : Wld} {P P' : Wld → Prop} {H H' : Hp} (w : WStep W P H H') (i : ∀ W', P W' → P' W') : WStep W P' H H' := ⟨w.off, w.tk, by
  obtain ⟨W', h1, h⟩ := w.nw
  exact ⟨W', i W' h1, h⟩⟩
theorem WStep.rf {W : Wld} {P : Wld → Prop} {H : Hp} (ok : W.ok H) (h : P W) : WStep W P H H := ⟨fun a o h n => h, Tk.rf H, W, h, ok, fun a f => .inl f⟩
/-- two steps, the second from what the first made -/
theorem WStep.two {W : Wld} {P P' : Wld → Prop} {H H1 H2 : Hp} (w : WStep W P H H1) (n : ∀ W', P W' → W'.ok H1 → (∀ a, W'.F a → W.F a ∨ H a = none) → WStep W' P' H1 H2) : WStep W P' H H2 := by
  obtain ⟨W', h1, h2, h3⟩ := w.nw
  have w2 := n W' h1 h2 h3
  refine ⟨fun a o h nf => w2.off a o (w.off a o h nf) fun f => ?_, w.tk.tr w2.tk, ?_⟩
  · rcases h3 a f with q | q
    · exact nf q
    · rw [h] at q; cases q
  · obtain ⟨W2, g1, g2, g3⟩ := w2.nw
    refine ⟨W2, g1, g2, fun a f => ?_⟩
    rcases g3 a f with q | q
    · exact h3 a q
    · by_cases nf : W.F a
      · exact .inl nf
      · refine .inr ?_
        cases ho : H a with
        | none => rfl
        | some o => rw [w.off a o ho nf] at q; cases q
/-- e gives data and changes the world of slot i -/
def EO (X : Cx) (ρ : List Sl) (i : Nat) (v : V) (W : Wld) (e : Expr) (P : PyData → Wld → Prop) : Prop := ∀ B F σ H, EnvB X.K B F H σ ρ → ∀ Q : VK, (∀ u H' d, WStep W (P d) H H' → DT X.K H' u d → Q u H') → wE X e σ H Q
def AO (X : Cx) (ρ : List Sl) (i : Nat) (v : V) (W : Wld) (es : List Expr) (P : List PyData → Wld → Prop) : Prop := ∀ B F σ H, EnvB X.K B F H σ ρ → ∀ Q : List V → Hp → Prop, (∀ us H' ds, WStep W (P ds) H H' → DTs X.K H' us ds → Q us H') → wA X es σ H Q
theorem set_set_i {ρ : List Sl} {i : Nat} {x y : Sl} : (ρ.set i x).set i y = ρ.set i y := by rw [List.set_set]
section
variable {X : Cx} {ρ : List Sl} {i : Nat} {v : V} {W : Wld} {a b c e f o x : Expr} {es : List Expr} {pos p2 p pos' apos cpos : Pos} {st : Stmt} {rest : List Stmt} {N : List Sl → Prop} {R : Sl → List Sl → Prop} {P : PyData → Wld → Prop}
theorem EO.imp {P' : PyData → Wld → Prop} (h : EO X ρ i v W e P) (k : ∀ d W', P d W' → P' d W') : EO X ρ i v W e P' := fun B F σ H ev Q q => h B F σ H ev Q fun u H' d ws dt => q u H' d (ws.imp (k d)) dt
theorem eo_pure {d : PyData} (h0 : ρ[i]? = some (.w v W)) (h : ED X ρ e d) (hp : P d W) : EO X ρ i v W e P := fun B F σ H ev Q q => h σ H ev.env _ fun u H1 e1 o1 => q u H1 d (.pre e1 (.rf (Wld.ex (ev.env.sl i _ h0).2 e1) hp)) o1
theorem eo_call {k j : Nat} {x y : Str} {px : Pos} {G : List Sl → (Sl → Wld → Prop) → Prop} {PP : Sl → Wld → Prop} {xs : List Sl} (cl : Cal X.prog X.w X.K X.mg X.base k x (MSp X.K G) []) (hr : Room j X.A) (h0 : ρ[i]? = some (.w v W)) (ha : AD X ρ (.Name y px :: es) (.r v :: xs)) (hxs : ∀ z ∈ xs, ∃ d, z = .d d) (h : G (.w v W :: xs) PP)
    (hp : ∀ z W', PP z W' → ∃ d, z = .d d ∧ P d W') (hk : k ≤ j := by decide) (hg : Gl X x := by rfl)
    (hdb : (x == ("__debug__" : Str)) = false := by decide) (he : starEach (.Name y px :: es) X.env = (false, eval (.Name y px) X.env) :: starEach es X.env := by rfl) (hpl : (backTo pos (starEach es X.env)).any (·.1) = false := by rfl) : EO X ρ i v W (.Call (.Name x p) (.Name y px :: es) [] pos) P := fun B F σ H ev Q q =>
  wE_of (pe_own cl hr hk hg pa_w hdb he hpl) (ha σ H ev.env _ fun vs H1 e1 o1 => by
    have ev1 := ev.grow e1
    have s1 : SlsOk X.K H1 vs (.w v W :: xs) := by
      cases o1 with
      | cons z zs => exact .cons ⟨congrArg (fun t => some (some t)) z, (ev1.env.sl i _ h0).2⟩ zs.sls
    refine ⟨v, W, xs, PP, by rw [List.append_nil]; exact s1, fun z hz => by obtain ⟨d, rfl⟩ := hxs z hz; exact trivial, h, fun u H2 z W' f1 t f2 f3 rv hP => ?_⟩
    obtain ⟨d, rfl, hR⟩ := hp z W' hP
    exact q u H2 d (.pre e1 ⟨f1, t, W', hR, f2, f3⟩) rv)
/-- what stands apart from W stays -/
theorem EnvB.apart {K : PySem.W.Frag} {B : Hp} {F : Addr → Prop} {H : Hp} {σ : L2.St} {ρ : List Sl} (ev : EnvB K B F H σ ρ) (h0 : ρ[i]? = some (.w v W)) {a : Addr} (h : H a = none) : ¬ W.F a := fun f => by
  obtain ⟨q, hq⟩ := W.dom H a (ev.env.sl i _ h0).2 f
  rw [h] at hq; cases hq
theorem EnvB.step {K : PySem.W.Frag} {B : Hp} {F : Addr → Prop} {H H' : Hp} {σ : L2.St} {ρ : List Sl} {W' : Wld} {PW : Wld → Prop} (ev : EnvB K B F H σ ρ) (h0 : ρ[i]? = some (.w v W)) (w : WStep W PW H H') : ∃ W', PW W' ∧ W'.ok H' ∧ (∀ a, W'.F a → W.F a ∨ H a = none) ∧ EnvB K B F H' σ (ρ.set i (.w v W')) := by
  obtain ⟨W', h1, h2, h3⟩ := w.nw
  exact ⟨W', h1, h2, h3, ev.mutW h0 w.off w.tk h2 h3⟩
theorem eo_opI {op : Operator} {C : Int → Int → Prop} {g : Int → Int → Int} (ho : OpR X (binaryOp op) (rI C fun i j => .int (g i j))) {n : Int} {P1 : PyData → Wld → Prop} (ha : ED X ρ a (.int n)) (hb : EO X ρ i v W b P1) (hp : ∀ d W', P1 d W' → ∃ j, d = .int j ∧ C n j ∧ P (.int (g n j)) W') : EO X ρ i v W (.BinOp a op b pos) P := fun B F σ H ev Q q =>
  wE_of (pe_op ho pe_w pe_w) (ha σ H ev.env _ fun u H1 e1 o1 => hb B F σ H1 (ev.grow e1) _ fun w H2 d ws o2 => by
    obtain ⟨W', h1, h2, h3⟩ := ws.nw
    obtain ⟨j, rfl, hc, hP⟩ := hp d W' h1
    exact ⟨n, j, (show DT X.K H1 u (.int n) from o1).of_int, (show DT X.K H2 w (.int j) from o2).of_int, hc, q _ H2 _ (.pre e1 ⟨ws.off, ws.tk, W', hP, h2, h3⟩) (.int _)⟩)
theorem eo_add {n : Nat} {P1 : PyData → Wld → Prop} (ha : ED X ρ a (dI n)) (hb : EO X ρ i v W b P1) (hp : ∀ d W', P1 d W' → ∃ j, d = dI j ∧ P (dI (n + j)) W') : EO X ρ i v W (.BinOp a .Add b pos) P := fun B F σ H ev Q q =>
  wE_of (pe_op op_add pe_w pe_w) (ha σ H ev.env _ fun u H1 e1 o1 => hb B F σ H1 (ev.grow e1) _ fun w H2 d ws o2 => by
    obtain ⟨W', h1, h2, h3⟩ := ws.nw
    obtain ⟨j, rfl, hP⟩ := hp d W' h1
    exact ⟨(n : Int), (j : Int), (show DT X.K H1 u (.int (n : Int)) from o1).of_int, (show DT X.K H2 w (.int (j : Int)) from o2).of_int, q _ H2 (dI (n + j)) (.pre e1 ⟨ws.off, ws.tk, W', hP, h2, h3⟩) (.int _)⟩)
/-- [..][e] -/
theorem eo_ixL {ds : List PyData} {P1 : PyData → Wld → Prop} (h0 : ρ[i]? = some (.w v W)) (ha : EV X ρ a (.l ds)) (hb : EO X ρ i v W b P1) (hp : ∀ d W', P1 d W' → ∃ (n : Nat) (y : PyData), d = dI n ∧ ds[n]? = some y ∧ P y W') (hs : PlainIx b := by exact fun _ _ => rfl) : EO X ρ i v W (.Subscript a b pos) P := fun B F σ H ev Q q =>
  wE_of (pe_ix ix_list pe_w pe_w hs) (ha σ H ev.env _ fun u H1 e1 ⟨t, vs, hu, ht, ht1, dt⟩ => hb B F σ H1 (ev.grow e1) _ fun w H2 d ws o2 => by
    obtain ⟨W', h1, h2, h3⟩ := ws.nw
    obtain ⟨n, y, rfl, hy, hP⟩ := hp d W' h1
    have k2 : H2 t = some (.lst vs) := ws.off t _ ht1 (ev.apart h0 ht)
    obtain ⟨z, z1, z2⟩ := dts_at (dt.te ws.tk) (atD_nat hy)
    exact ⟨t, vs, (n : Int), z, hu, (show DT X.K H2 w (.int (n : Int)) from o2).of_int, .of k2, z1, q z H2 y (.pre e1 ⟨ws.off, ws.tk, W', hP, h2, h3⟩) z2⟩)
theorem ao_nil {P : List PyData → Wld → Prop} (h0 : ρ[i]? = some (.w v W)) (h : P [] W) : AO X ρ i v W [] P := fun B F σ H ev Q q => wA_of pa_nil (q [] H [] (.rf (ev.env.sl i _ h0).2 h) .nil)
theorem ao_cons {P1 : PyData → Wld → Prop} {P : List PyData → Wld → Prop} (h0 : ρ[i]? = some (.w v W)) (h : EO X ρ i v W e P1) (t : ∀ d W', P1 d W' → AO X (ρ.set i (.w v W')) i v W' es (fun ds W2 => P (d :: ds) W2)) (hs : starEach (e :: es) X.env = (false, eval e X.env) :: starEach es X.env := by rfl) : AO X ρ i v W (e :: es) P := fun B F σ H ev Q q =>
  wA_of (pa_cons pe_w pa_w hs) (h B F σ H ev _ fun u H1 d ws o1 => by
    obtain ⟨W', h1, h2, h3⟩ := ws.nw
    have ev1 := ev.mutW h0 ws.off ws.tk h2 h3
    exact t d W' h1 B F σ H1 ev1 _ fun us H2 ds ws2 o2 => q (u :: us) H2 (d :: ds) (WStep.two (P := fun z => z = W') ⟨ws.off, ws.tk, W', rfl, h2, h3⟩ fun z hz _ _ => hz ▸ ws2) (.cons (o1.te ws2.tk) o2))
theorem eo_tup {k} {P : PyData → Wld → Prop} (h : AO X ρ i v W es (fun ds W' => P (.tuple ds) W' ∧ ds.length ≤ sizeLine)) : EO X ρ i v W (.Tuple es k pos) P := fun B F σ H ev Q q => by
  -- the object's kind hangs on the data: both are covered
  refine ⟨fun pins s I => ?_⟩
  refine wpAny_Tuple_spliced (thn ((h B F σ H ev (fun us H1 => ∃ ds, WStep W (fun W' => P (.tuple ds) W' ∧ ds.length ≤ sizeLine) H H1 ∧ DTs X.K H1 us ds) (fun us H1 ds ws dt => ⟨ds, ws, dt⟩)).it pos pins s I) fun us s1 ⟨xs, H1, I1, r, ds, ws, dt⟩ => ?_)
  obtain ⟨W', ⟨h1, hz⟩, h2, h3⟩ := ws.nw
  have hz' : xs.length ≤ sizeLine := by rw [dt.len]; exact hz
  refine ⟨by rw [← r.length]; exact hz', ?_⟩
  have hn : H1 s1.heap.objs.size = none := I1.hok.fresh (Nat.le_refl _)
  exact ⟨.ref s1.heap.objs.size, _, laidT (isCells ds) I1 r hz', rfl, q _ _ (.tuple ds) (.post ⟨ws.off, ws.tk, W', h1, h2, h3⟩ (Ex.up hn)) (.tup (Stp.new rfl) (dt.te (Ex.up hn).te))⟩
theorem eo_if {k : Bool} (h : TD X ρ c k) (h1 : k = true → EO X ρ i v W a P) (h2 : k = false → EO X ρ i v W b P) : EO X ρ i v W (.IfExp c a b pos) P := fun B F σ H ev Q q =>
  wE_of (pe_ifExp pt_w pe_w pe_w) (h σ H ev.env _ fun H1 e1 => by
    cases k with
    | true => exact h1 rfl B F σ H1 (ev.grow e1) Q fun w H2 d ws o2 => q w H2 d (.pre e1 ws) o2
    | false => exact h2 rfl B F σ H1 (ev.grow e1) Q fun w H2 d ws o2 => q w H2 d (.pre e1 ws) o2)
theorem ew_eo (h0 : ρ[i]? = some (.w v W)) {RR : PyData → List Sl → Prop} (h : EO X ρ i v W e P) (hr : ∀ d W', P d W' → RR d (ρ.set i (.w v W'))) : EW X ρ e RR := fun B F σ H ev Q q => h B F σ H ev _ fun u H1 d ws dt => by
  obtain ⟨W', h1, h2, h3⟩ := ws.nw
  exact q u H1 d _ (ev.mutW h0 ws.off ws.tk h2 h3) ws.tk dt (hr d W' h1)
/-! ### statements -/
/-- x = e -/
theorem sjs_setO (j : Nat) {x : Str} (h0 : ρ[i]? = some (.w v W)) (h : EO X ρ i v W e P) (t : ∀ d W', P d W' → SJs X ((ρ.set i (.w v W')).set j (.d d)) rest N R) (hN : X.N.Nodup) (hi : X.N[j]? = some x := by rfl) (hx : Loc X.env.scope x := by first | exact Or.inl rfl | exact Or.inr rfl) (hs : swapsWith e (some (.Name x pos')) pos.line X.env = pure false := by rfl)
    (hf : X.fn x = true ∨ X.env.scope.names.lookup x = some .local := by first | exact .inl rfl | exact .inr rfl) : SJs X ρ (.Assign [.Name x pos'] e pos :: rest) N R :=
  sjs_setW j (R := fun d ρ' => ∃ W', P d W' ∧ ρ' = ρ.set i (.w v W')) (ew_eo h0 h fun d W' hP => ⟨W', hP, rfl⟩) (fun d ρ' hR => by
    obtain ⟨W', hP, rfl⟩ := hR
    exact t d W' hP) hN hi hx hs hf
/-- x, y = a, b -/
theorem sjs_parO (j l : Nat) {x y : Str} {P1 : PyData → Wld → Prop} {px py pt : Pos} {kt k2 pt2} (h0 : ρ[i]? = some (.w v W)) (ha : EO X ρ i v W a P1) (hb : ∀ d W', P1 d W' → EO X (ρ.set i (.w v W')) i v W' b (fun d2 W2 => SJs X (((ρ.set i (.w v W2)).set j (.d d)).set l (.d d2)) rest N R)) (hc : X.calm = true) (hN : X.N.Nodup) (hi : X.N[j]? = some x := by rfl) (hj : X.N[l]? = some y := by rfl) (hij : j ≠ l := by decide)
    (hx : X.env.scope.names.lookup x = some .local := by rfl) (hy : X.env.scope.names.lookup y = some .local := by rfl) (he : starEach [a, b] X.env = (false, eval a X.env) :: starEach [b] X.env := by rfl) (he2 : starEach [b] X.env = (false, eval b X.env) :: starEach [] X.env := by rfl)
    (hw : swappedStores [.Tuple [.Name x px, .Name y py] kt pt] (.Tuple [a, b] k2 pt2) X.env = pure (some [x, y]) := by rfl) (hs : swapsWithSole [.Tuple [.Name x px, .Name y py] kt pt] (.Tuple [a, b] k2 pt2) pos.line X.env = pure false := by rfl) :
    SJs X ρ (.Assign [.Tuple [.Name x px, .Name y py] kt pt] (.Tuple [a, b] k2 pt2) pos :: rest) N R :=
  sjs_cons (M := fun ρ2 => SJs X ρ2 rest N R) (fun B F σ H ev D k r => wS_of (ps_par hc hN hi hj hij hx hy (pa_cons pe_w (pa_cons pe_w pa_nil he2) he) hw hs) (ha B F σ H ev _ fun v1 H1 d ws o1 => by
    obtain ⟨W', h1, h2, h3⟩ := ws.nw
    have ev1 := ev.mutW h0 ws.off ws.tk h2 h3
    have hi' : i < ρ.length := (List.getElem?_eq_some_iff.mp h0).1
    refine hb d W' h1 B F σ H1 ev1 _ fun v2 H2 d2 ws2 o2 => ⟨v1, v2, rfl, ?_⟩
    obtain ⟨W2, g1, g2, g3⟩ := ws2.nw
    have ev2 := ev1.mutW (List.getElem?_set_self hi') ws2.off ws2.tk g2 g3
    rw [List.set_set] at ev2
    exact k _ H2 _ ((ev2.put (x := .d d) (Ex.rf H2) (o1.te ws2.tk)).put (x := .d d2) (Ex.rf H2) o2) (ws.tk.tr ws2.tk) g1)) fun ρ2 m => m
/-- l.append(e), l a list of one's own -/
theorem sjs_appO (j : Nat) {x : Str} {ds : List PyData} (h0 : ρ[i]? = some (.w v W)) (hij : i ≠ j) (hj : ρ[j]? = some (.l ds)) (h : EO X ρ i v W e P) (hz : ds.length < sizeLine) (t : ∀ d W', P d W' → SJs X ((ρ.set i (.w v W')).set j (.l (ds ++ [d]))) rest N R) (hv : PE X (.Name x p2) (tVar j))
    (hs : swapsWith (.Call (.Attribute (.Name x p2) "append" apos) [e] [] cpos) none pos.line X.env = pure false := by rfl) (hline : (apos.endLine == cpos.line) = true := by rfl) (he : starEach [e] X.env = (false, eval e X.env) :: starEach [] X.env := by rfl)
    (hfew : ((backTo cpos (starEach [e] X.env)).all (fun x => !x.1) && (backToKw cpos (keywordEach [] X.env)).all (fun x => x.1.isSome) && decide ([e].length + ([] : List Keyword).length + (if ([] : List Keyword).isEmpty then 0 else 1) < 30)) = true := by rfl)
    (hbase : attributeBase (.Name x p2) "append" X.env (eval (.Name x p2) X.env) = eval (.Name x p2) X.env := by rfl) : SJs X ρ (.Expr (.Call (.Attribute (.Name x p2) "append" apos) [e] [] cpos) pos :: rest) N R :=
  sjs_cons (M := fun ρ2 => ∃ d W', P d W' ∧ ρ2 = (ρ.set i (.w v W')).set j (.l (ds ++ [d]))) (fun B F σ H ev D k r => wS_of (ps_expr (pe_bm PySem.F.plainAttrs_list PySem.F.slot_list_append PySem.F.type_list_append mt_append hv (pa_cons pe_w pa_nil he) hbase hfew hline he) hs) (by
    obtain ⟨q, vs, e1, e2, e3⟩ := ev.env.sl j _ hj
    refine ⟨_, e1, .inl ⟨rfl, vs, .of e2⟩, h B F σ H ev _ fun u H1 d ws o1 => ?_⟩
    obtain ⟨W', h1, h2, h3⟩ := ws.nw
    have ev1 := ev.mutW h0 ws.off ws.tk h2 h3
    have hj' : (ρ.set i (.w v W'))[j]? = some (.l ds) := by rw [List.getElem?_set_ne hij]; exact hj
    obtain ⟨q', vs', f1, f2, f3⟩ := ev1.env.sl j _ hj'
    rw [e1] at f1
    cases f1
    obtain ⟨m1, m2⟩ := ev1.mut hj' e1 f2 (f3.app (.one o1))
    exact ⟨q, vs', u, rfl, rfl, f2, by rw [f3.len]; exact hz, k σ _ _ m1 (ws.tk.tr m2) ⟨d, W', h1, rfl⟩⟩)) fun ρ2 m => by
    obtain ⟨d, W', h1, rfl⟩ := m
    exact t d W' h1
/-- for .. in range(e) -/
theorem sj_forO {tg : Expr} {body : List Stmt} (h0 : ρ[i]? = some (.w v W)) (hm : X.mg "range" = none) (h : EO X ρ i v W a P) (I : Nat → Nat → List Sl → Prop) (hP : ∀ d W', P d W' → ∃ n : Nat, d = dI n ∧ n < 2 ^ 61 ∧ I n 0 (ρ.set i (.w v W'))) (turn : ∀ n k ρ1, k < n → I n k ρ1 → ∃ ps, GD X tg (dI k) ps ∧ SJs X (setsD ps ρ1) body (I n (k + 1)) R) (done : ∀ n ρ1, I n n ρ1 → N ρ1)
    (hc : X.calm = true) (hx : PassesOwn (model X.prog X.w) X.A X.env X.xe) (hs : ∀ x, foldedSetIterable (.Call (.Name "range" p) [a] [] p2) X.env x = pure x := by intro _; rfl) (hg : Gl X "range" := by rfl) (hs1 : starEach [a] X.env = [(false, eval a X.env)] := by rfl) : SJ X ρ (.For tg (.Call (.Name "range" p) [a] [] p2) body [] pos) N R := fun B F σ H ev D k r => by
  refine wS_of (ps_for hx hc (pi_range1 hg hm (pa_cons pe_w pa_nil hs1) hs1) pg_w pss_w hs) (h B F σ H ev _ fun u H1 d ws o1 => ?_)
  obtain ⟨W', h1, h2, h3⟩ := ws.nw
  obtain ⟨n, rfl, hn, hI⟩ := hP d W' h1
  have ev1 := ev.mutW h0 ws.off ws.tk h2 h3
  refine ⟨(n : Int), by rw [(show DT X.K H1 u (.int (n : Int)) from o1).of_int], by omega, by omega, ?_⟩
  rw [Int.toNat_natCast]
  refine for_it (walk_range (lo := 0) (n := n)) (fun i σ2 H2 => Tk H1 H2 ∧ ∃ ρ2, EnvB X.K B F H2 σ2 ρ2 ∧ I n i ρ2) ⟨Tk.rf _, _, ev1, hI⟩ (fun _ _ _ _ z => trivial) (fun k' x σ2 H2 H3 hi z y => ?_) fun σ2 H2 z => ?_
  · obtain ⟨t2, ρ2, ev2, I2⟩ := z
    obtain ⟨rfl, rfl⟩ := y
    obtain ⟨ps, g, s⟩ := turn n k' ρ2 hi I2
    have dk : DT X.K H3 (.int (0 + (k' : Int))) (dI k') := by rw [Int.zero_add]; exact .int _
    refine g σ2 H3 _ dk _ fun us ok => ?_
    exact s B F _ H3 (ok.envB ev2) _ (fun σ4 H4 ρ4 ev4 t4 I4 => ⟨t2.tr t4, ρ4, ev4, I4⟩) fun v H4 d4 e4 t4 o4 q4 => r v H4 d4 e4 ((ws.tk.tr t2).tr t4) o4 q4
  · obtain ⟨t2, ρ2, ev2, I2⟩ := z
    exact k σ2 H2 ρ2 ev2 (ws.tk.tr t2) (done n ρ2 I2)
end
end TC
set_option Elab.async false
set_option linter.all false
set_option maxRecDepth 100000
set_option maxHeartbeats 4000000
/-! The house, part 6: more rules for asked. -/
namespace TC
open PySem L2
/-- W and the list of xs at a -/
def Wld.plus (W : Wld) (K : PySem.W.Frag) (a : Addr) (xs : List PyData) : Wld where
  F := fun b => W.F b ∨ b = a
  ok := fun H => W.ok H ∧ ∃ vs, H a = some (.lst vs) ∧ DTs K H vs xs
  dom := fun H b h e => by
    rcases e with e | rfl
    · exact W.dom H b h.1 e
    · obtain ⟨vs, h1, _⟩ := h.2; exact ⟨_, h1⟩
  stay := fun H H' h k t => ⟨W.stay H H' h.1 (fun b f => k b (.inl f)) t, by
    obtain ⟨vs, h1, h2⟩ := h.2
    exact ⟨vs, by rw [k a (.inr rfl)]; exact h1, h2.te t⟩⟩
theorem EnvB.merge {K : PySem.W.Frag} {B : Hp} {F : Addr → Prop} {H : Hp} {σ : L2.St} {ρ : List Sl} {i j : Nat} {v : V} {W : Wld} {xs : List PyData} {a : Addr} (h : EnvB K B F H σ ρ) (hij : i ≠ j) (hi : ρ[i]? = some (.w v W)) (hj : ρ[j]? = some (.l xs)) (hp : σ[j]? = some (some (.ref a))) :
    EnvB K B F H σ ((ρ.set j .no).set i (.w v (W.plus K a xs))) := by
  have hiρ : i < ρ.length := (List.getElem?_eq_some_iff.mp hi).1
  have hjρ : j < ρ.length := (List.getElem?_eq_some_iff.mp hj).1
  have cases3 : ∀ {k : Nat} {z : Sl}, ((ρ.set j .no).set i (.w v (W.plus K a xs)))[k]? = some z → (k = i ∧ z = .w v (W.plus K a xs)) ∨ (k = j ∧ z = .no) ∨ (k ≠ i ∧ k ≠ j ∧ ρ[k]? = some z) := fun {k z} e => by
    by_cases h1 : i = k
    · subst h1
      rw [List.getElem?_set_self (by rw [List.length_set]; exact hiρ)] at e
      cases e; exact .inl ⟨rfl, rfl⟩
    · rw [List.getElem?_set_ne h1] at e
      by_cases h2 : j = k
      · subst h2
        rw [List.getElem?_set_self hjρ] at e
        cases e; exact .inr (.inl ⟨rfl, rfl⟩)
      · rw [List.getElem?_set_ne h2] at e
        exact .inr (.inr ⟨Ne.symm h1, Ne.symm h2, e⟩)
  obtain ⟨b, vs, l1, l2, l3⟩ := h.env.sl j _ hj
  rw [hp] at l1
  cases l1
  refine ⟨⟨by rw [List.length_set, List.length_set]; exact h.env.len, fun k z e => ?_⟩, h.ex, h.dom, fun k z b e f => ?_, fun k u W2 b e f => ?_⟩
  · rcases cases3 e with ⟨rfl, rfl⟩ | ⟨rfl, rfl⟩ | ⟨_, _, e⟩
    · obtain ⟨w1, w2⟩ := h.env.sl _ _ hi
      exact ⟨w1, w2, vs, l2, l3⟩
    · exact trivial
    · exact h.env.sl k z e
  · rcases cases3 e with ⟨rfl, rfl⟩ | ⟨rfl, rfl⟩ | ⟨n1, n2, e⟩
    · have base : B b = none ∧ ¬ F b ∧ ∀ (m : Nat) (y : Sl), m ≠ k → m ≠ j → ρ[m]? = some y → ¬ Ft σ m y b := by
        rcases f with f | rfl
        · obtain ⟨o1, o2, o3⟩ := h.own k _ b hi f
          exact ⟨o1, o2, fun m y h1 h2 e2 => o3 m y h1 e2⟩
        · obtain ⟨o1, o2, o3⟩ := h.own j _ b hj hp
          exact ⟨o1, o2, fun m y h1 h2 e2 => o3 m y h2 e2⟩
      refine ⟨base.1, base.2.1, fun m y hm e2 f2 => ?_⟩
      rcases cases3 e2 with ⟨rfl, _⟩ | ⟨rfl, rfl⟩ | ⟨n1, n2, e2⟩
      · exact hm rfl
      · exact f2
      · exact base.2.2 m y n1 n2 e2 f2
    · exact f.elim
    · obtain ⟨o1, o2, o3⟩ := h.own k z b e f
      refine ⟨o1, o2, fun m y hm e2 f2 => ?_⟩
      rcases cases3 e2 with ⟨rfl, rfl⟩ | ⟨rfl, rfl⟩ | ⟨_, _, e2⟩
      · rcases f2 with f2 | rfl
        · exact o3 _ _ hm hi f2
        · exact o3 _ _ (Ne.symm n2) hj hp
      · exact f2
      · exact o3 m y hm e2 f2
  · rcases cases3 e with ⟨_, q⟩ | ⟨_, q⟩ | ⟨_, _, e⟩
    · cases q
    · cases q
    · exact h.bor k u W2 b e f
theorem valV_find (es : List (Row × Addr)) (c g : Nat) : valV (es.map entG) [.inl (c : Int), .inl (g : Int)] = (es.find? fun e => decide (place e.1 = (c, g))).map fun e => V.ref e.2 := by
  unfold valV
  rw [List.find?_map, Option.map_map]
  congr 1
  congr 1
  funext e
  simp only [Function.comp, entG, keyR, place, decide_eq_decide, List.cons.injEq, Sum.inl.injEq, and_true, Prod.mk.injEq]
  omega
theorem rowAt_find (es : List (Row × Addr)) (c g : Nat) : rowAt (es.map (·.1)) c g = (es.find? fun e => decide (place e.1 = (c, g))).map (·.1) := by
  unfold rowAt
  rw [List.find?_map]
  rfl
section
variable {X : Cx} {ρ : List Sl} {a b c e f o : Expr} {pos p apos cpos : Pos} {st : Stmt} {rest : List Stmt} {N : List Sl → Prop} {R : Sl → List Sl → Prop}
/-- groups.get(place, [0, 0, (), ()]) -/
theorem eb_getG {t : Addr} {es : List (Row × Addr)} {cc gg : Nat} (hu : X.A.units + 1 < cLine) (ho : EV X ρ o (.r (.ref t))) (hf : HF X ρ (GW X.K t es).ok) (hk : ED X ρ e (ePair (cc, gg))) (hd : ER X ρ f (rowL ⟨cc, gg, 0, 0, [], []⟩)) (m : M2 X o "get" apos e f cpos := by exact ⟨rfl, rfl, rfl, rfl⟩) :
    EB X ρ (.Call (.Attribute o "get" apos) [e, f] [] cpos) (fun x => ∃ a, x = .b (.ref a) (LW X.K a (rowL (rowD (es.map (·.1)) cc gg)))) := fun σ H ev Q q =>
  wE_of (pe_dget2 hu pe_w pe_w pe_w m) (ho σ H ev _ fun v H1 e1 o1 => by
    cases (show v = .ref t from o1)
    refine ⟨t, rfl, .inr ⟨_, .inl (hf σ H1 (ev.ex e1)).1⟩, hk σ H1 (ev.ex e1) _ fun y H2 e2 o2 => hd σ H2 (ev.ex (e1.tr e2)) _ fun z vs H3 e3 hz dz => ?_⟩
    obtain ⟨h3, h4⟩ := hf σ H3 (ev.ex ((e1.tr e2).tr e3))
    obtain ⟨b, rfl, hb⟩ := DT.key_at (ks := [.inl (cc : Int), .inl (gg : Int)]) (fun q => by cases q) (show DT X.K H2 y (keyDs [.inl (cc : Int), .inl (gg : Int)]) from o2)
    refine ⟨_, .inr ⟨es.map entG, [.inl (cc : Int), .inl (gg : Int)], b, .inl h3, rfl, e3 _ _ hb, rfl⟩, ?_⟩
    rw [valV_find]
    unfold rowD at q
    rw [rowAt_find] at q
    cases hfnd : es.find? fun e => decide (place e.1 = (cc, gg)) with
    | none =>
      rw [hfnd] at q
      exact q (.ref z) H3 (.b (.ref z) (LW X.K z (rowL ⟨cc, gg, 0, 0, [], []⟩))) ((e1.tr e2).tr e3) ⟨rfl, vs, hz, dz⟩ ⟨z, rfl⟩
    | some x =>
      rw [hfnd] at q
      obtain ⟨ws, w1, w2⟩ := h4 x (List.mem_of_find?_eq_some hfnd)
      exact q (.ref x.2) H3 (.b (.ref x.2) (LW X.K x.2 (rowL x.1))) ((e1.tr e2).tr e3) ⟨rfl, ws, w1, w2⟩ ⟨x.2, rfl⟩)
end
def putE (es : List (Row × Addr)) (r : Row) (a : Addr) : List (Row × Addr) := if es.any (fun e => decide (place e.1 = place r)) then es.map fun e => if place e.1 = place r then (r, a) else e else es ++ [(r, a)]
theorem putE_fst (es : List (Row × Addr)) (r : Row) (a : Addr) : (putE es r a).map (·.1) = putRow (es.map (·.1)) r := by
  unfold putE putRow
  rw [List.any_map]
  have e : (es.any ((fun x => decide (place x = place r)) ∘ (·.1))) = es.any fun e => decide (place e.1 = place r) := rfl
  rw [e]
  split
  · rw [List.map_map, List.map_map]
    refine List.map_congr_left fun x _ => ?_
    simp only [Function.comp]
    split <;> rfl
  · rw [List.map_append]; rfl
theorem keyR_inj {r r' : Row} : keyR r = keyR r' ↔ place r = place r' := by
  simp only [keyR, place, List.cons.injEq, Sum.inl.injEq, and_true, Prod.mk.injEq]
  omega
theorem putE_ent (es : List (Row × Addr)) (r : Row) (a : Addr) : putK (es.map entG) (keyR r) (.ref a) = (putE es r a).map entG := by
  unfold putE putK
  rw [List.any_map]
  have e : (es.any ((fun kv : List L2.Key × V => decide (kv.1 = keyR r)) ∘ entG)) = es.any fun e => decide (place e.1 = place r) := by
    congr 1
    funext x
    exact decide_eq_decide.mpr keyR_inj
  rw [e]
  split
  · rw [List.map_map, List.map_map]
    refine List.map_congr_left fun x _ => ?_
    simp only [Function.comp]
    by_cases h : place x.1 = place r
    · rw [if_pos h, if_pos (show (entG x).1 = keyR r from keyR_inj.mpr h)]
      show ((entG x).1, V.ref a) = (keyR r, V.ref a)
      rw [show (entG x).1 = keyR r from keyR_inj.mpr h]
    · rw [if_neg h, if_neg (show ¬ (entG x).1 = keyR r from fun q => h (keyR_inj.mp q))]
  · rw [List.map_append]; rfl
theorem putE_mem {es : List (Row × Addr)} {r : Row} {a : Addr} {e : Row × Addr} (h : e ∈ putE es r a) : e ∈ es ∨ e = (r, a) := by
  unfold putE at h
  split at h
  · obtain ⟨x, hx, rfl⟩ := List.mem_map.mp h
    split
    · exact .inr rfl
    · exact .inl hx
  · rcases List.mem_append.mp h with h | h
    · exact .inl h
    · exact .inr (List.mem_singleton.mp h)
section
variable {X : Cx} {ρ : List Sl} {a b c e f o : Expr} {pos p apos cpos : Pos} {st : Stmt} {rest : List Stmt} {N : List Sl → Prop} {R : Sl → List Sl → Prop}
/-- groups[place] = row: the list goes into the world -/
theorem sjs_putG (i j : Nat) {x : Str} {v : V} {t : Addr} {es : List (Row × Addr)} {r : Row} {pos' : Pos} (hu : X.A.units + 1 < cLine) (hij : i ≠ j) (h0 : ρ[i]? = some (.w v (GW X.K t es))) (hj : ρ[j]? = some (.l (rowL r))) (ho : EV X ρ o (.r (.ref t))) (hk : ED X ρ e (ePair (place r))) (hz : es.length < sizeLine) (hv : PE X (.Name x p) (tVar j))
    (tt : ∀ a, SJs X ((ρ.set j .no).set i (.w v (GW X.K t (putE es r a)))) rest N R) (hs : swapsWith (.Name x p) (some (.Subscript o e pos')) pos.line X.env = pure false := by rfl) : SJs X ρ (.Assign [.Subscript o e pos'] (.Name x p) pos :: rest) N R :=
  sjs_cons (M := fun ρ' => ∃ a, ρ' = (ρ.set j .no).set i (.w v (GW X.K t (putE es r a)))) (fun B F σ H ev D k rr => wS_of (ps_dput hu pe_w pe_w hv hs) (by
    obtain ⟨l, vs, l1, _, _⟩ := ev.env.sl j _ hj
    refine ⟨.ref l, l1, ho σ H ev.env _ fun w H1 x1 o1 => hk σ H1 (ev.env.ex x1) _ fun y H2 x2 o2 => ?_⟩
    cases (show w = .ref t from o1)
    obtain ⟨kb, rfl, hb⟩ := DT.key_at (ks := keyR r) (fun q => by cases q) (show DT X.K H2 y (keyDs (keyR r)) from o2)
    have ev2 := ev.grow (x1.tr x2)
    have evM := ev2.merge hij h0 hj l1
    obtain ⟨g1, g2⟩ := (ev2.env.sl i _ h0).2
    obtain ⟨l', vs', q1, q2, q3⟩ := ev2.env.sl j _ hj
    rw [l1] at q1
    cases q1
    have tk := tk_dt (o := .dT (putK (es.map entG) (keyR r) (.ref l))) g1
    refine ⟨t, upd H2 t (.dT (putK (es.map entG) (keyR r) (.ref l))), rfl, .inr ⟨es.map entG, keyR r, kb, g1, rfl, hb, by rw [List.length_map]; exact hz, rfl⟩, ?_⟩
    have hiρ : i < (ρ.set j .no).length := by rw [List.length_set]; exact (List.getElem?_eq_some_iff.mp h0).1
    have nt : ∀ {b : Addr} {us : List V}, H2 b = some (.lst us) → b ≠ t := fun {b us} e q => by rw [q, g1] at e; cases e
    have evF := evM.mutW (i := i) (W := (GW X.K t es).plus X.K l (rowL r)) (W' := GW X.K t (putE es r l)) (H' := upd H2 t (.dT (putK (es.map entG) (keyR r) (.ref l)))) (List.getElem?_set_self hiρ) (fun b ob q nf => by rw [upd_ne (fun z => nf (.inl (.inl z)))]; exact q) tk
      ⟨by rw [upd_same, putE_ent], fun e he => by
        rcases putE_mem he with he | rfl
        · obtain ⟨us, u1, u2⟩ := g2 e he
          exact ⟨us, by rw [upd_ne (nt u1)]; exact u1, u2.te tk⟩
        · exact ⟨vs', by rw [upd_ne (nt q2)]; exact q2, q3.te tk⟩⟩ (fun b hb => .inl (by
        rcases hb with hb | ⟨e, he, hb⟩
        · exact .inl (.inl hb)
        · rcases putE_mem he with he | rfl
          · exact .inl (.inr ⟨e, he, hb⟩)
          · exact .inr hb))
    rw [List.set_set] at evF
    exact k σ _ _ evF ((x1.tr x2).te.tr tk) ⟨l, rfl⟩)) fun ρ' m => by
    obtain ⟨a, rfl⟩ := m
    exact tt a
/-- xs[j], xs[k] = a pair -/
theorem sjs_put2 (i : Nat) {x : Str} {p2 p3 p4 p5 pt : Pos} {kt : Nat} {ds : List PyData} {d1 d2 : PyData} {j k : Nat} (hc : X.calm = true) (h : ED X ρ e (.tuple [d1, d2])) (h0 : ρ[i]? = some (.l ds)) (ha : ∀ ρ', ED X ρ' a (.int (j : Int))) (hb : ∀ ρ', ED X ρ' b (.int (k : Int))) (hj : j < ds.length) (hk : k < ds.length) (t : SJs X (ρ.set i (.l ((ds.set j d1).set k d2))) rest N R) (hv : PE X (.Name x p2) (tVar i)) (hv2 : PE X (.Name x p4) (tVar i))
    (ga : ∀ v, assign (.Subscript (.Name x p2) a p3) X.env v = (do
      let ov ← holding [v] (eval (.Name x p2) X.env)
      let iv ← holding [v, ov] (eval a X.env)
      standAt p3
      holding [v, ov, iv] (setItem ov iv v)
      release [v, ov, iv] []) := by intro _; rfl)
    (gb : ∀ v, assign (.Subscript (.Name x p4) b p5) X.env v = (do
      let ov ← holding [v] (eval (.Name x p4) X.env)
      let iv ← holding [v, ov] (eval b X.env)
      standAt p5
      holding [v, ov, iv] (setItem ov iv v)
      release [v, ov, iv] []) := by intro _; rfl)
    (g1 : (assignEach [.Subscript (.Name x p2) a p3, .Subscript (.Name x p4) b p5] X.env).map (·.2) = assign (.Subscript (.Name x p2) a p3) X.env :: (assignEach [.Subscript (.Name x p4) b p5] X.env).map (·.2) := by rfl) (g2 : (assignEach [.Subscript (.Name x p4) b p5] X.env).map (·.2) = assign (.Subscript (.Name x p4) b p5) X.env :: (assignEach [] X.env).map (·.2) := by rfl)
    (hn : (assignEach [.Subscript (.Name x p2) a p3, .Subscript (.Name x p4) b p5] X.env).length = 2 := by rfl) (hst : (assignEach [.Subscript (.Name x p2) a p3, .Subscript (.Name x p4) b p5] X.env).findIdx? (·.1) = none := by rfl)
    (hs : swapsWithSole [.Tuple [.Subscript (.Name x p2) a p3, .Subscript (.Name x p4) b p5] kt pt] e pos.line X.env = pure false := by rfl) (hw : swappedStores [.Tuple [.Subscript (.Name x p2) a p3, .Subscript (.Name x p4) b p5] kt pt] e X.env = pure none := by rfl)
    (h1 : (assignEach [.Tuple [.Subscript (.Name x p2) a p3, .Subscript (.Name x p4) b p5] kt pt] X.env).map (·.2) = [assign (.Tuple [.Subscript (.Name x p2) a p3, .Subscript (.Name x p4) b p5] kt pt) X.env] := by rfl) :
    SJs X ρ (.Assign [.Tuple [.Subscript (.Name x p2) a p3, .Subscript (.Name x p4) b p5] kt pt] e pos :: rest) N R :=
  sjs_cons (M := fun ρ' => ρ' = ρ.set i (.l ((ds.set j d1).set k d2))) (fun B F σ H ev D kk r => wS_of (ps_asg pe_w (pg_tup hc (pgs_cons (pg_sub hv pe_w set_list ga) (pgs_cons (pg_sub hv2 pe_w set_list gb) pgs_nil g2) g1) hn hst) hs hw h1) (h σ H ev.env _ fun w H1 x1 o1 => by
    obtain ⟨ta, xs, rfl, ts, tr⟩ := (show DT X.K H1 w (.tuple [d1, d2]) from o1).of_tup
    cases tr with
    | cons r1 tr => cases tr with
      | cons r2 tr =>
        cases tr
        rename_i v1 v2
        have ev1 := ev.grow x1
        obtain ⟨q, vs, e1, e2, e3⟩ := ev1.env.sl i _ h0
        refine ⟨ta, _, rfl, ts.sq, rfl, v1, [v2], rfl, _, e1, ha ρ σ H1 ev1.env _ fun w2 H2 x2 o2 => ?_⟩
        have ev2 := ev1.grow x2
        have e4 := x2 _ _ e2
        obtain ⟨m1, m2⟩ := ev2.mut h0 e1 e4 ((e3.te x2.te).set (r1.te x2.te) j)
        have hlv : vs.length = ds.length := e3.len
        refine ⟨q, vs, (j : Int), j, rfl, (show DT X.K H2 w2 (.int (j : Int)) from o2).of_int, e4, ?_, ?_⟩
        · unfold ixN
          rw [if_pos (by omega), if_pos (by omega), Int.toNat_natCast]
        · have hi : i < ρ.length := (List.getElem?_eq_some_iff.mp h0).1
          have h0' : (ρ.set i (.l (ds.set j d1)))[i]? = some (.l (ds.set j d1)) := List.getElem?_set_self hi
          refine ⟨v2, [], rfl, _, e1, hb _ σ _ m1.env _ fun w3 H3 x3 o3 => ?_⟩
          have ev3 := m1.grow x3
          have e5 := x3 _ _ upd_same
          obtain ⟨n1, n2⟩ := ev3.mut h0' e1 e5 ((((e3.te x2.te).set (r1.te x2.te) j).te (m2.tr x3.te)).set (r2.te ((x2.te.tr m2).tr x3.te)) k)
          refine ⟨q, vs.set j v1, (k : Int), k, rfl, (show DT X.K H3 w3 (.int (k : Int)) from o3).of_int, e5, ?_, rfl, ?_⟩
          · unfold ixN
            rw [if_pos (by omega), if_pos (by rw [List.length_set]; omega), Int.toNat_natCast]
          · rw [List.set_set] at n1
            exact kk σ _ _ n1 ((((x1.te.tr x2.te).tr m2).tr x3.te).tr n2) rfl)) fun ρ' m => by subst m; exact t
end
end TC
set_option Elab.async false
set_option linter.all false
set_option maxRecDepth 100000
set_option maxHeartbeats 4000000
/-! The house, part 7: asked. -/
namespace TC
open PySem L2
theorem eqv_dI (i j : Nat) : PyData.eqv (dI i) (dI j) = decide (i = j) := by
  simp only [dI, PyData.eqv]
  by_cases h : i = j
  · subst h; simp
  · simp [h]; omega
theorem any_dI (ns : List Nat) (n : Nat) : ((ns.map dI).any fun z => PyData.eqv z (dI n)) = decide (n ∈ ns) := by
  rw [List.any_map]
  induction ns with
  | nil => simp
  | cons m ns ih =>
    rw [List.any_cons, ih]
    simp only [Function.comp, eqv_dI]
    by_cases h : m = n
    · subst h; simp
    · simp [h, Ne.symm h]
theorem rowD_ok {S : Setting} {st : State} (wt : Wf S st) (c g : Nat) : (rowD st.house.rows c g).floor ≤ (rowD st.house.rows c g).next ∧ (rowD st.house.rows c g).answers.length = (rowD st.house.rows c g).next - (rowD st.house.rows c g).floor := by
  rcases rowD_mem (rs := st.house.rows) (c := c) (g := g) with h | h
  · exact ⟨(wt.rows _ h).fl, (wt.rows _ h).ans⟩
  · rw [h]; exact ⟨Nat.le_refl _, rfl⟩
theorem askRow_ok {S : Setting} {st : State} (wt : Wf S st) {a : Ask} (ok : LetOk st a.letter) : (askRow st.house a).floor ≤ (askRow st.house a).next ∧ (askRow st.house a).answers.length = (askRow st.house a).next - (askRow st.house a).floor := by
  obtain ⟨h1, h2⟩ := rowD_ok wt a.k.c a.k.g
  have h3 : a.heard ≤ (rowD st.house.rows a.k.c a.k.g).next := ok.2.2
  unfold askRow forgot
  simp only
  rw [List.length_drop, h2]
  omega
theorem runS_place {c g clock : Nat} : ∀ (f : Nat) (h : Hs) (ws : List Wait), place (runS c g clock f h ws).row = place h.row
  | 0, h, ws => rfl
  | f + 1, h, [] => rfl
  | f + 1, h, w :: _ => runS_place f (oneS c g clock h w) _
theorem runS_book {c g clock : Nat} : ∀ (f : Nat) (h : Hs) (ws : List Wait), (runS c g clock f h ws).book.length ≤ h.book.length + f
  | 0, h, ws => Nat.le_refl _
  | f + 1, h, [] => Nat.le_add_right _ _
  | f + 1, h, w :: _ => by
    refine Nat.le_trans (runS_book f (oneS c g clock h w) _) ?_
    simp only [oneS, List.length_append, List.length_cons, List.length_nil]
    omega
theorem putRow_nd {rs : List Row} {r : Row} (h : (rs.map place).Nodup) : ((putRow rs r).map place).Nodup := by
  unfold putRow
  split
  · have e : (rs.map fun x => if place x = place r then r else x).map place = rs.map place := by
      rw [List.map_map]
      refine List.map_congr_left fun x _ => ?_
      simp only [Function.comp]
      split
      · rename_i q; exact q.symm
      · rfl
    rw [e]; exact h
  · rename_i q
    rw [List.map_append, List.nodup_append]
    refine ⟨h, by simp, fun a ha b hb e => ?_⟩
    obtain ⟨x, hx, rfl⟩ := List.mem_map.mp ha
    have hb : b = place r := by simpa using hb
    exact q (List.any_eq_true.mpr ⟨x, hx, decide_eq_true (e.trans hb)⟩)
theorem putRow_len {rs : List Row} {r : Row} : (putRow rs r).length ≤ rs.length + 1 := by
  unfold putRow
  split
  · rw [List.length_map]; omega
  · simp
theorem putA_len {cs : List (Str × Nat)} {x : Str} {n : Nat} : (putA cs x n).length ≤ cs.length + 1 := by
  unfold putA
  split
  · rw [List.length_map]; omega
  · simp
theorem decS_len {cs : List (Str × Nat)} {clock : Nat} {y : Wait} : (decS cs clock y).1.length ≤ cs.length + 1 := by
  unfold decS
  split
  · exact Nat.le_succ _
  · exact putA_len
def waitKey0 : PyData → PyData
  | .tuple (d :: _) => d
  | d => d
def fEq (m : Nat) (d : PyData) : Option PyData := match waitKey0 d with
  | .int i => if i = (m : Int) then some d else none
  | _ => none
def fGt (m : Nat) (d : PyData) : Option PyData := match waitKey0 d with
  | .int i => if (m : Int) < i then some d else none
  | _ => none
theorem fEq_map (ws : List Wait) (m : Nat) : (ws.map eWait).filterMap (fEq m) = (dueW ws m).map eWait := by
  unfold dueW
  induction ws with
  | nil => rfl
  | cons w ws ih =>
    rw [List.map_cons, List.filterMap_cons, List.filter_cons, ih]
    by_cases h : w.n = m
    · simp [fEq, waitKey0, eWait, dI, h]
    · have h2 : ¬ ((w.n : Int) = (m : Int)) := by omega
      simp [fEq, waitKey0, eWait, dI, h, h2]
theorem fGt_map (ws : List Wait) (m : Nat) : (ws.map eWait).filterMap (fGt m) = (ws.filter fun x => decide (m < x.n)).map eWait := by
  induction ws with
  | nil => rfl
  | cons w ws ih =>
    rw [List.map_cons, List.filterMap_cons, List.filter_cons, ih]
    by_cases h : m < w.n
    · have h2 : (m : Int) < (w.n : Int) := by omega
      simp [fGt, waitKey0, eWait, dI, h, h2]
    · have h2 : ¬ ((m : Int) < (w.n : Int)) := by omega
      simp [fGt, waitKey0, eWait, dI, h, h2]
theorem askWait_mem {S : Setting} {r : Row} {a : Ask} {y : Wait} (h : y ∈ askWait S r a) : y ∈ r.waiting ∨ y = a.w := by
  unfold askWait at h
  split at h
  · exact .inl h
  · split at h
    · have h := (List.mergeSort_perm _ _).mem_iff.mp h
      rcases List.mem_append.mp h with h | h
      · exact .inl h
      · exact .inr (List.mem_singleton.mp h)
    · exact .inl h
theorem lay_wait {w : Wait} (h : PyData.strOk w.cell = true) : Lay 1 (eWait w) := lay_tup (lay_cons (lay_I _) (lay_cons (lay_str h) (lay_cons (lay_I _) (lay_cons (lay_I _) lay_nil))))
def waitKey : PyData → PyData
  | .tuple (d :: _) => d
  | d => d
theorem place_rowD (rs : List Row) (c g : Nat) : place (rowD rs c g) = (c, g) := by
  unfold rowD rowAt
  cases e : rs.find? fun r => decide (place r = (c, g)) with
  | none => rfl
  | some r => simpa using List.find?_some e
section
variable {P : Program} {w : World} {K : PySem.W.Frag} {mg : Str → Option Value} {base : Heap}
theorem sc_asked : FnScope ["setting", "house", "clock", "letter", "word", "caller", "group", "n", "cell", "number", "last", "heard", "cells", "book", "groups", "place", "tells", "keys", "row", "due", "answer", "key", "one"] ["setting", "house", "clock", "letter"] (defScope (top 52)) := ⟨rfl, rfl, rfl, by decide +kernel, rfl, by decide +kernel, by decide +kernel⟩
theorem c_asked (T : Bl mg) (O : Own K mg "asked" (defD "asked" (top 52)) []) (c1 : Cal P w K mg base 1 "groups_of_house" (ASl K (R_groups_h K)) []) (c2 : Cal P w K mg base 1 "forgotten" (ASl K (R_forgotten K)) []) (c3 : Cal P w K mg base 1 "decided" (MSp K R_decided) []) (c4 : Cal P w K mg base 1 "closed" (ASp K (R_closed K)) []) : Cal P w K mg base 4 "asked" (PSp K R_asked) [] := by
  refine cal_pure O sc_asked ?_ (by decide) (fun _ _ _ _ _ _ us hl => match us, hl with | [_, _, _, _], _ => rfl) ?_
  · rintro ds d ⟨S, st, a, _, _, _, _, rfl, _⟩; rfl
  · rintro f cdv A outer s H E hr ds d ⟨S, st, a, wf, wt, z, ok, rfl, rfl⟩
    have hsz := sz
    have nd := sc_asked.nd
    have hu := roomU hr
    have hu1 : (A.deeper (PyProof.Rows.envOfC "asked" (defScope (top 52)) s.heap.objs.size f cdv)).units + 1 < cLine := by omega
    obtain ⟨rk1, rk2⟩ := askRow_ok wt ok
    refine sjs_asg (ed_var 3) (gd_tup rfl (gds_cons (gd_name 4 nd) (gds_cons (gd_tup rfl (gds_cons (gd_name 5 nd) (gds_cons (gd_name 6 nd) (gds_cons (gd_name 7 nd) gds_nil))) rfl) (gds_cons (gd_name 8 nd) (gds_cons (gd_name 9 nd) (gds_cons (gd_name 10 nd) (gds_cons (gd_name 11 nd) gds_nil)))))) rfl) ?_
    refine SJs.to [.d (eSetting S), .d (eHouse st.house), .d (dI st.clock), .d (eLetter a.letter), .d (.str "ask"), .d (dI a.k.c), .d (dI a.k.g), .d (dI a.k.n), .d (.str a.cell), .d (dI a.number), .d (dI a.last), .d (dI a.heard), .no, .no, .no, .no, .no, .no, .no, .no, .no, .no, .no] ?_
    refine sjs_par3x 12 13 14 (Φ2 := (· = .l (st.house.book.map eBook))) (ex_dictCells (cs := st.house.cells) rfl T.dict wt.cnd (ed_ic (ed_var 1) rfl)) (ex_ev (ev_lstOf T.list (ed_ic (ed_var 1) rfl)) rfl) (ex_callB (Φ := fun x => ∃ t es, es.map (·.1) = st.house.rows ∧ x = .w (.ref t) (GW K t es)) c1 hr (ab_cons (eb_d (ed_var 1)) ab_nil) (fun xs hx => ?_)) (fun x12 x13 x14 h12 h13 h14 => ?_) rfl nd
    · obtain ⟨y, ys, rfl, rfl, rfl⟩ := hx
      exact ⟨st.house, rfl, wt.rnd, by have := z.rows; omega, fun t es e => ⟨t, es, e, rfl⟩⟩
    obtain ⟨tc, rfl⟩ := h12
    subst h13
    obtain ⟨tg, es, hes, rfl⟩ := h14
    refine sjs_par3 15 16 17 (u := .d (ePair (a.k.c, a.k.g))) (v := .l []) (w := .l []) (ed_tup (ad_consd (ed_var 5) (ad_consd (ed_var 6) ad_nild))) (ev_lst ad_nild) (ev_lst ad_nild) ?_ rfl nd
    refine SJs.to [.d (eSetting S), .d (eHouse st.house), .d (dI st.clock), .d (eLetter a.letter), .d (.str "ask"), .d (dI a.k.c), .d (dI a.k.g), .d (dI a.k.n), .d (.str a.cell), .d (dI a.number), .d (dI a.last), .d (dI a.heard), .w (.ref tc) (CW tc st.house.cells), .l (st.house.book.map eBook), .w (.ref tg) (GW K tg es), .d (ePair (a.k.c, a.k.g)), .l [], .l [], .no, .no, .no, .no, .no] ?_
    -- the row, forgotten
    refine sjs_setx 18 (Φ := (· = .l (rowL (askRow st.house a)))) (ex_callB c2 hr (ab_cons (eb_getG (t := tg) (es := es) (cc := a.k.c) (gg := a.k.g) hu1 (ev_w 14) (hf_w (W := GW K tg es) 14) (ed_var 15) (er_new (ev_lst (ds := rowL ⟨a.k.c, a.k.g, 0, 0, [], []⟩) (ad_consd ed_k (ad_consd ed_k (ad_consd (ed_tup ad_nild) (ad_consd (ed_tup ad_nild) ad_nild)))) (by show 4 ≤ sizeLine; omega)))) (ab_cons (eb_d (ed_var 11)) ab_nil)) (fun xs hx => ?_)) (fun y hy => ?_) nd
    · obtain ⟨y, ys, rfl, ⟨ar, rfl⟩, y2, ys2, rfl, rfl, rfl⟩ := hx
      rw [hes]
      exact ⟨ar, rowD st.house.rows a.k.c a.k.g, a.heard, rfl, rfl⟩
    subst hy
    generalize hR : askRow st.house a = r at rk1 rk2 ⊢
    -- what is told at once, what is kept waiting
    refine sjs_cons (sj_if (N := fun ρ => ρ = [.d (eSetting S), .d (eHouse st.house), .d (dI st.clock), .d (eLetter a.letter), .d (.str "ask"), .d (dI a.k.c), .d (dI a.k.g), .d (dI a.k.n), .d (.str a.cell), .d (dI a.number), .d (dI a.last), .d (dI a.heard), .w (.ref tc) (CW tc st.house.cells), .l (st.house.book.map eBook), .w (.ref tg) (GW K tg es), .d (ePair (a.k.c, a.k.g)), .l ((askTells r a.k).map eTell), .l [], .l (rowL { r with waiting := askWait S r a }), .no, .no, .no, .no])
      (k := askOld r a.k.n) (td_is (td_chain op_le op_lt (ed_icL (er_var 18) rfl) (ed_var 7) (ed_icL (er_var 18) rfl)) ?_) (fun h => ?_) fun h => ?_) ?_
    · unfold askOld
      rw [← Bool.decide_and]
      exact decide_eq_decide.mpr (by omega)
    · have h2 := of_decide_eq_true h
      have hx : r.answers[a.k.n - r.floor]? = some (r.answers[a.k.n - r.floor]'(by omega)) := List.getElem?_eq_getElem _
      refine sjs_app 16 (ed_tup (ad_consd ed_str (ad_consd (ed_tup (ad_consd (ed_var 5) (ad_consd (ed_var 6) (ad_consd (ed_var 7) ad_nild)))) (ad_consd (ed_xm eAns (ed_icL (er_var 18) rfl) (ed_subn (ed_var 7) (ed_icL (er_var 18) rfl) h2.1) hx) ad_nild)))) rfl (by show 0 < sizeLine; omega) (sjs_nil ?_) (slot_name 16)
      unfold askTells askWait
      rw [h, if_pos rfl, if_pos rfl, hx]
      rfl
    · have hk : askTells r a.k = [] := by unfold askTells; rw [h]; rfl
      have hw : r.waiting.length ≤ 100000 := by
        have e := z.waitD a.k.c a.k.g
        rw [← hR]; exact e
      have ew : (r.waiting.map eWait).map waitKey = (r.waiting.map (·.n)).map dI := by rw [List.map_map, List.map_map]; rfl
      have lay : SeqAt.shaped (.list ((r.waiting.map (·.n)).map dI)) = true := Lay.shaped (n := 1) (lay_lst fun d hd => by
        obtain ⟨m, _, rfl⟩ := List.mem_map.mp hd
        exact lay_I m)
      refine sjs_one (sj_if (k := askKeep S r a.k.n) (td_is (TW.td (tw_and (k := decide ((r.next : Int) < (a.k.n : Int)) && decide ((a.k.n : Int) < (r.floor : Int) + (S.window : Int))) (m := !decide (a.k.n ∈ r.waiting.map (·.n))) (td_chain op_lt op_lt (ed_icL (er_var 18) rfl) (ed_var 7) (ed_add (ed_icL (er_var 18) rfl) (ed_ic (ed_var 0) rfl))) fun _ => tw_and1 (td_is (td_niL hu (ed_var 7) (er_new (ev_lcE (own := [("one", 22)]) waitKey (it_tup (ds := r.waiting.map eWait) (ed_icL (er_var 18) rfl)).ic rfl nd (blkOk_by (N := ["setting", "house", "clock", "letter", "word", "caller", "group", "n", "cell", "number", "last", "heard", "cells", "book", "groups", "place", "tells", "keys", "row", "due", "answer", "key", "one"]) (sc := defScope (top 52)) (by decide +kernel)) (by rw [List.length_map]; omega) ew (fun d hd => ?_))) (lay_I _).shaped lay) (by rw [any_dI])))) ?_) (fun h2 => ?_) fun h2 => ?_)
      · obtain ⟨x, _, rfl⟩ := List.mem_map.mp hd
        exact ⟨[(22, eWait x)], fun _ _ _ _ _ => gd_name 22 nd, own_by, fun _ _ _ _ _ => ed_ic (ed_var 22) rfl⟩
      · unfold askKeep
        rw [← Bool.decide_and, Bool.and_comm]
        by_cases q : a.k.n ∈ r.waiting.map (·.n)
        · simp [q]
        · simp only [q, not_false_eq_true, and_true, decide_false, Bool.not_false, Bool.true_and]
          exact decide_eq_decide.mpr (by omega)
      · refine sjs_put 18 (ed_tupOf T.tuple (er_new (EV.eq (ev_sortedTup T.sorted (ed_is (ed_cat (ed_icL (er_var 18) rfl) (ed_tup (ad_consd (ed_tup (ad_consd (ed_var 7) (ad_consd (ed_var 8) (ad_consd (ed_var 9) (ad_consd (ed_var 10) ad_nild))))) ad_nild)) (by rw [List.length_map]; show r.waiting.length + 1 ≤ sizeLine; omega)) (y := .tuple ((r.waiting ++ [a.w]).map eWait)) (by rw [List.map_append]; rfl)) (srt_waits (roomU64 hr) _)) (congrArg Sl.l (srtD_map eWait _))))) ed_k rfl (by show 3 < 4; decide) (sjs_nil ?_) (slot_name 18)
        unfold askWait
        rw [h, h2, hk]
        rfl
      · refine sjs_nil ?_
        unfold askWait
        rw [h, h2, hk]
        rfl
    · rintro ρ rfl
      have hw : (askWait S r a).length ≤ 100001 := by
        have e := z.waitD a.k.c a.k.g
        have e2 := askWait_len (S := S) (r := r) (a := a)
        have e3 : r.waiting.length ≤ 100000 := by rw [← hR]; exact e
        omega
      have hnx : r.next ≤ 4 := by
        have e : r.next = (rowD st.house.rows a.k.c a.k.g).next := by rw [← hR]; rfl
        rw [e]
        rcases rowD_mem (rs := st.house.rows) (c := a.k.c) (g := a.k.g) with h | h
        · have q := (wt.rows _ h).nx
          have q2 : (grpD st (rowD st.house.rows a.k.c a.k.g).c (rowD st.house.rows a.k.c a.k.g).g).calls.length ≤ 4 := by
            unfold grpD
            cases e : grp st (rowD st.house.rows a.k.c a.k.g).c (rowD st.house.rows a.k.c a.k.g).g with
            | none => exact Nat.zero_le _
            | some G =>
              have g1 := (wt.grp _ _ G e).len
              obtain ⟨l, hl⟩ := wt.shp.grpS_ e
              have g2 := wf.grp hl
              unfold lenS at g1
              rw [hl] at g1
              exact Nat.le_trans g1 g2
          omega
        · rw [h]; exact Nat.zero_le _
      have han : r.answers.length ≤ 100000 := by omega
      have hX : askS S st.house st.clock a = runS a.k.c a.k.g st.clock ((askWait S r a).length + 1) ⟨st.house.cells, st.house.book, askTells r a.k, [], { r with waiting := askWait S r a }⟩ (if a.k.n = r.next then [a.w] else []) := by
        unfold askS
        rw [hR]
      refine sjs_set 19 (y := .l ((if a.k.n = r.next then [a.w] else []).map eWait)) (ev_if (k := decide (a.k.n = r.next)) (td_eqn (ed_var 7) (ed_icL (er_var 18) rfl)) (fun h => EV.eq (ev_lst (ad_consd (ed_tup (ad_consd (ed_var 7) (ad_consd (ed_var 8) (ad_consd (ed_var 9) (ad_consd (ed_var 10) ad_nild))))) ad_nild)) ?_) fun h => EV.eq (ev_lst ad_nild) ?_) ?_ nd
      · rw [if_pos (of_decide_eq_true h)]; rfl
      · rw [if_neg (of_decide_eq_false h)]; rfl
      refine sjs_cons (sj_while (fun m ρ => ∃ (x : Hs) (due : List Wait) (s7 s8 s9 s10 s20 s21 : Sl), runS a.k.c a.k.g st.clock m x due = askS S st.house st.clock a ∧ (due ≠ [] → x.row.waiting.length < m) ∧ (x.book.length + m ≤ 300000 ∧ x.cells.length + m ≤ 300000 ∧ x.tells.length + m ≤ 300000 ∧ x.keys.length + m ≤ 300000 ∧ x.row.answers.length + m ≤ 300000) ∧ ((∀ y ∈ due, PyData.strOk y.cell = true) ∧ ∀ y ∈ x.row.waiting, PyData.strOk y.cell = true) ∧
          ρ = [.d (eSetting S), .d (eHouse st.house), .d (dI st.clock), .d (eLetter a.letter), .d (.str "ask"), .d (dI a.k.c), .d (dI a.k.g), s7, s8, s9, s10, .d (dI a.heard), .w (.ref tc) (CW tc x.cells), .l (x.book.map eBook), .w (.ref tg) (GW K tg es), .d (ePair (a.k.c, a.k.g)), .l (x.tells.map eTell), .l (x.keys.map eKey), .l (rowL x.row), .l (due.map eWait), s20, s21, .no])
        (N := fun ρ => ∃ (x : Hs) (s7 s8 s9 s10 s19 s20 s21 : Sl), x = askS S st.house st.clock a ∧ ρ = [.d (eSetting S), .d (eHouse st.house), .d (dI st.clock), .d (eLetter a.letter), .d (.str "ask"), .d (dI a.k.c), .d (dI a.k.g), s7, s8, s9, s10, .d (dI a.heard), .w (.ref tc) (CW tc x.cells), .l (x.book.map eBook), .w (.ref tg) (GW K tg es), .d (ePair (a.k.c, a.k.g)), .l (x.tells.map eTell), .l (x.keys.map eKey), .l (rowL x.row), s19, s20, s21, .no]) (m0 := (askWait S r a).length + 1) ?_ ?_ PassesOwn.never) ?_
      · refine ⟨_, _, _, _, _, _, _, _, hX.symm, fun _ => Nat.lt_succ_self _, ?_, ?_, rfl⟩
        rotate_left
        · have okw : ∀ y ∈ r.waiting, PyData.strOk y.cell = true := fun y hy => by
            have hy : y ∈ (rowD st.house.rows a.k.c a.k.g).waiting := by rw [← hR] at hy; exact hy
            rcases rowD_mem (rs := st.house.rows) (c := a.k.c) (g := a.k.g) with h | h
            · exact ((wt.rows _ h).wt y hy).1
            · rw [h] at hy; cases hy
          refine ⟨fun y hy => ?_, fun y hy => ?_⟩
          · split at hy
            · rw [List.mem_singleton.mp hy]; exact ok.1
            · cases hy
          · rcases askWait_mem hy with h | rfl
            · exact okw y h
            · exact ok.1
        have b1 := z.book
        have b2 := z.cells
        have b3 : (askTells r a.k).length ≤ 1 := by unfold askTells; split <;> simp
        refine ⟨by simp only; omega, by simp only; omega, by simp only; omega, by simp only [List.length_nil]; omega, by simp only; omega⟩
      · rintro m ρ ⟨x, due, s7, s8, s9, s10, s20, s21, hrun, hlt, ⟨b1, b2, b3, b4, b5⟩, ⟨ok1, ok2⟩, rfl⟩
        have shp : SeqAt.shaped (.list (due.map eWait)) = true := Lay.shaped (n := 2) (lay_lst fun d hd => by
          obtain ⟨y, hy, rfl⟩ := List.mem_map.mp hd
          exact lay_wait (ok1 y hy))
        have shp0 : SeqAt.shaped (.list []) = true := Lay.shaped (n := 1) (lay_lst lay_nil)
        cases due with
        | nil =>
          refine ⟨false, td_is (td_neL (roomU64 hr) (er_var 19) (er_new (ev_lst ad_nild)) shp shp0) (by simp [PyData.eqv, PyData.eqvAll]), (fun q => by cases q), fun _ => ⟨x, s7, s8, s9, s10, _, s20, s21, ?_, rfl⟩⟩
          rw [← hrun]
          cases m <;> rfl
        | cons y due =>
          refine ⟨true, td_is (td_neL (roomU64 hr) (er_var 19) (er_new (ev_lst ad_nild)) shp shp0) (by simp [PyData.eqv, PyData.eqvAll]), fun _ => ?_, (fun q => by cases q)⟩
          obtain ⟨m, rfl⟩ : ∃ m', m = m' + 1 := ⟨m - 1, by have := hlt (by simp); omega⟩
          have hlt := hlt (by simp)
          refine sjs_asg (ed_icL (d := eWait y) (er_var 19) rfl) (gd_tup rfl (gds_cons (gd_name 7 nd) (gds_cons (gd_name 8 nd) (gds_cons (gd_name 9 nd) (gds_cons (gd_name 10 nd) gds_nil)))) rfl) ?_
          refine SJs.to [.d (eSetting S), .d (eHouse st.house), .d (dI st.clock), .d (eLetter a.letter), .d (.str "ask"), .d (dI a.k.c), .d (dI a.k.g), .d (dI y.n), .d (.str y.cell), .d (dI y.number), .d (dI y.last), .d (dI a.heard), .w (.ref tc) (CW tc x.cells), .l (x.book.map eBook), .w (.ref tg) (GW K tg es), .d (ePair (a.k.c, a.k.g)), .l (x.tells.map eTell), .l (x.keys.map eKey), .l (rowL x.row), .l ((y :: due).map eWait), s20, s21, .no] ?_
          refine sjs_parW 20 21 (Re := fun d ρ' => d = eAns (decS x.cells st.clock y).2 ∧ ρ' = [.d (eSetting S), .d (eHouse st.house), .d (dI st.clock), .d (eLetter a.letter), .d (.str "ask"), .d (dI a.k.c), .d (dI a.k.g), .d (dI y.n), .d (.str y.cell), .d (dI y.number), .d (dI y.last), .d (dI a.heard), .w (.ref tc) (CW tc (decS x.cells st.clock y).1), .l (x.book.map eBook), .w (.ref tg) (GW K tg es), .d (ePair (a.k.c, a.k.g)), .l (x.tells.map eTell), .l (x.keys.map eKey), .l (rowL x.row), .l ((y :: due).map eWait), s20, s21, .no])
            (ew_call 12 (xs := [.d (dI st.clock), .d (.str y.cell), .d (dI y.number), .d (dI y.last)]) (P := fun q W' => q = .d (eAns (decS x.cells st.clock y).2) ∧ W' = CW tc (decS x.cells st.clock y).1) c3 hr rfl (ad_cons (ev_w 12) (ad_cons (ed_var 2) (ad_cons (ed_var 8) (ad_cons (ed_var 9) (ad_cons (ed_var 10) ad_nil))))) (fun q hq => ?_) ⟨tc, x.cells, st.clock, y, rfl, by omega, rfl, rfl⟩ (fun q W' hq => ?_)) (fun d ρ' hd => ?_) rfl nd
          · simp only [List.mem_cons, List.not_mem_nil, or_false] at hq
            rcases hq with rfl | rfl | rfl | rfl <;> exact ⟨_, rfl⟩
          · obtain ⟨rfl, rfl⟩ := hq
            exact ⟨_, rfl, rfl, rfl⟩
          obtain ⟨rfl, rfl⟩ := hd
          refine ⟨.d (eKey ⟨a.k.c, a.k.g, y.n⟩), ed_tup (ad_consd (ed_var 5) (ad_consd (ed_var 6) (ad_consd (ed_var 7) ad_nild))), ?_⟩
          have lb : (x.book.map eBook).length < sizeLine := by rw [List.length_map]; omega
          have lk : (x.keys.map eKey).length < sizeLine := by rw [List.length_map]; omega
          have lt : (x.tells.map eTell).length < sizeLine := by rw [List.length_map]; omega
          refine sjs_app 13 (ds := x.book.map eBook) (d := eBook (⟨a.k.c, a.k.g, y.n⟩, (decS x.cells st.clock y).2)) (ed_tup (ad_consd (ed_var 21) (ad_consd (ed_var 20) ad_nild))) rfl lb ?_ (slot_name 13)
          refine sjs_app 17 (ds := x.keys.map eKey) (d := eKey ⟨a.k.c, a.k.g, y.n⟩) (ed_var 21) rfl lk ?_ (slot_name 17)
          refine sjs_app 16 (ds := x.tells.map eTell) (d := eTell (⟨a.k.c, a.k.g, y.n⟩, (decS x.cells st.clock y).2)) (ed_tup (ad_consd ed_str (ad_consd (ed_var 21) (ad_consd (ed_var 20) ad_nild)))) rfl lt ?_ (slot_name 16)
          have la : x.row.answers.length + 1 ≤ sizeLine := by omega
          refine SJs.to [.d (eSetting S), .d (eHouse st.house), .d (dI st.clock), .d (eLetter a.letter), .d (.str "ask"), .d (dI a.k.c), .d (dI a.k.g), .d (dI y.n), .d (.str y.cell), .d (dI y.number), .d (dI y.last), .d (dI a.heard), .w (.ref tc) (CW tc (decS x.cells st.clock y).1), .l ((oneS a.k.c a.k.g st.clock x y).book.map eBook), .w (.ref tg) (GW K tg es), .d (ePair (a.k.c, a.k.g)), .l ((oneS a.k.c a.k.g st.clock x y).tells.map eTell), .l ((oneS a.k.c a.k.g st.clock x y).keys.map eKey), .l (rowL x.row), .l ((y :: due).map eWait), .d (eAns (decS x.cells st.clock y).2), .d (eKey ⟨a.k.c, a.k.g, y.n⟩), .no] ?_ (by simp [oneS, List.map_append, setsD])
          refine sjs_put2 18 (ds := rowL x.row) (d1 := dI (y.n + 1)) (d2 := .tuple ((x.row.answers ++ [(decS x.cells st.clock y).2]).map eAns)) (j := 0) (k := 2) rfl (ed_tup (ad_consd (ed_addn (ed_var 7) ed_k) (ad_consd (ed_is (ed_cat (ed_icL (er_var 18) rfl) (ed_tup (ad_consd (ed_var 20) ad_nild)) (by rw [List.length_map]; exact la)) (by rw [List.map_append]; rfl)) ad_nild))) rfl (fun _ => ed_int) (fun _ => ed_int) (by show 0 < 4; decide) (by show 2 < 4; decide) ?_ (slot_name 18) (slot_name 18)
          refine sjs_setLc 19 (ds := (dueW x.row.waiting (y.n + 1)).map eWait) (fEq_map x.row.waiting (y.n + 1) ▸ lcjIf (own := [("one", 22)]) (fEq (y.n + 1)) (it_tup (ds := x.row.waiting.map eWait) (ed_icL (er_var 18) rfl)).ic ?_ (fun d hd => ?_)) ?_ rfl nd (blkOk_by (N := ["setting", "house", "clock", "letter", "word", "caller", "group", "n", "cell", "number", "last", "heard", "cells", "book", "groups", "place", "tells", "keys", "row", "due", "answer", "key", "one"]) (sc := defScope (top 52)) (by decide +kernel))
          · refine SJs.to [.d (eSetting S), .d (eHouse st.house), .d (dI st.clock), .d (eLetter a.letter), .d (.str "ask"), .d (dI a.k.c), .d (dI a.k.g), .d (dI y.n), .d (.str y.cell), .d (dI y.number), .d (dI y.last), .d (dI a.heard), .w (.ref tc) (CW tc (decS x.cells st.clock y).1), .l ((oneS a.k.c a.k.g st.clock x y).book.map eBook), .w (.ref tg) (GW K tg es), .d (ePair (a.k.c, a.k.g)), .l ((oneS a.k.c a.k.g st.clock x y).tells.map eTell), .l ((oneS a.k.c a.k.g st.clock x y).keys.map eKey), .l ([dI (y.n + 1), dI x.row.floor, .tuple ((x.row.answers ++ [(decS x.cells st.clock y).2]).map eAns), .tuple (x.row.waiting.map eWait)]), .l ((dueW x.row.waiting (y.n + 1)).map eWait), .d (eAns (decS x.cells st.clock y).2), .d (eKey ⟨a.k.c, a.k.g, y.n⟩), .no] ?_
            refine sjs_put 18 (j := 3) (d := .tuple ((x.row.waiting.filter fun z => decide (y.n + 1 < z.n)).map eWait)) (ed_tupOf T.tuple (er_new (EV.eq (ev_lcIf (own := [("one", 22)]) (fGt (y.n + 1)) (it_tup (ds := x.row.waiting.map eWait) (ed_icL (er_var 18) rfl)).ic rfl nd (blkOk_by (N := ["setting", "house", "clock", "letter", "word", "caller", "group", "n", "cell", "number", "last", "heard", "cells", "book", "groups", "place", "tells", "keys", "row", "due", "answer", "key", "one"]) (sc := defScope (top 52)) (by decide +kernel)) ?_ (fun d hd => ?_)) (congrArg Sl.l (fGt_map x.row.waiting (y.n + 1)))))) ed_k rfl (by show 3 < 4; decide) (sjs_nil ?_) (slot_name 18)
            · rw [List.length_map]; omega
            · obtain ⟨v, hv, rfl⟩ := List.mem_map.mp hd
              refine ⟨[(22, eWait v)], fun _ _ _ _ _ => gd_name 22 nd, own_by, decide (y.n + 1 < v.n), fun _ _ _ _ _ => td_is (td_gtn (ed_ic (ed_var 22) rfl) (ed_addn (ed_var 7) ed_k)) rfl, fun h => ?_, fun h => ⟨eWait v, ?_, fun _ _ _ _ _ => ed_var 22⟩⟩
              · have h := of_decide_eq_false h
                have h2 : ¬ (((y.n + 1 : Nat) : Int) < (v.n : Int)) := by omega
                simp only [fGt, waitKey0, eWait, dI, if_neg h2]
              · have h := of_decide_eq_true h
                have h2 : ((y.n + 1 : Nat) : Int) < (v.n : Int) := by omega
                simp only [fGt, waitKey0, eWait, dI, if_pos h2]
            · refine ⟨m, Nat.lt_succ_self m, oneS a.k.c a.k.g st.clock x y, dueW x.row.waiting (y.n + 1), _, _, _, _, _, _, hrun, fun hne => ?_, ?_, ⟨fun z hz => ok2 z (List.mem_filter.mp hz).1, fun z hz => ok2 z (List.mem_filter.mp hz).1⟩, rfl⟩
              · obtain ⟨z, hz⟩ := List.exists_mem_of_ne_nil _ hne
                obtain ⟨hz1, hz2⟩ := List.mem_filter.mp hz
                have hz2 := of_decide_eq_true hz2
                have q : (x.row.waiting.filter fun z => decide (y.n + 1 < z.n)).length < x.row.waiting.length := List.length_filter_lt_length_iff_exists.mpr ⟨z, hz1, by simp only [decide_eq_true_eq]; omega⟩
                show (x.row.waiting.filter fun z => decide (y.n + 1 < z.n)).length < m
                omega
              · have q : (decS x.cells st.clock y).1.length ≤ x.cells.length + 1 := decS_len
                simp only [oneS, List.length_append, List.length_cons, List.length_nil]
                omega
          · rw [List.length_map]; omega
          · obtain ⟨v, hv, rfl⟩ := List.mem_map.mp hd
            refine ⟨[(22, eWait v)], fun _ _ _ _ _ => gd_name 22 nd, own_by, decide (v.n = y.n + 1), fun _ _ _ _ _ => td_eqn (ed_ic (ed_var 22) rfl) (ed_addn (ed_var 7) ed_k), fun h => ?_, fun h => ⟨eWait v, ?_, fun _ _ _ _ _ => ed_var 22⟩⟩
            · have h := of_decide_eq_false h
              have h2 : ¬ ((v.n : Int) = ((y.n + 1 : Nat) : Int)) := by omega
              simp only [fEq, waitKey0, eWait, dI, if_neg h2]
            · have h := of_decide_eq_true h
              have h2 : (v.n : Int) = ((y.n + 1 : Nat) : Int) := by omega
              simp only [fEq, waitKey0, eWait, dI, if_pos h2]
      · rintro ρ ⟨x, s7, s8, s9, s10, s19, s20, s21, hx, rfl⟩
        have pl : place x.row = (a.k.c, a.k.g) := by
          rw [hx, hX, runS_place]
          show place r = _
          rw [← hR]
          exact place_rowD st.house.rows a.k.c a.k.g
        have el : es.length = st.house.rows.length := by rw [← hes, List.length_map]
        refine sjs_putG 14 18 (r := x.row) hu1 (by decide) rfl rfl (ev_w 14) (by rw [pl]; exact ed_var 15) (by have := z.rows; omega) (slot_name 18) (fun ar => ?_)
        have pe : (putE es x.row ar).map (·.1) = putRow st.house.rows x.row := by rw [putE_fst, hes]
        refine sjs_ret (ed_tup (ad_consd (ed_callB (d := eHouse (closedS st.house x)) c4 hr (ab_cons (eb_b (W := CW tc x.cells) (ev_w 12) (hf_w 12)) (ab_cons (eb_l (er_var 13)) (ab_cons (eb_b (W := GW K tg (putE es x.row ar)) (ev_w 14) (hf_w 14)) ab_nil))) (fun xs hxs => ?_)) (ad_consd (ed_tupOf T.tuple (er_var 16)) (ad_consd (ed_tupOf T.tuple (er_var 17)) ad_nild)))) ?_
        · obtain ⟨y1, ys1, rfl, rfl, y2, ys2, rfl, ⟨ab, rfl⟩, y3, ys3, rfl, rfl, rfl⟩ := hxs
          refine ⟨tc, ab, tg, x.cells, x.book, putE es x.row ar, rfl, ?_, ?_, ?_⟩
          · have e : ((putE es x.row ar).map fun e => place e.1) = ((putE es x.row ar).map (·.1)).map place := by rw [List.map_map]; rfl
            rw [e, pe]
            exact putRow_nd wt.rnd
          · have e := congrArg List.length pe
            rw [List.length_map] at e
            have := putRow_len (rs := st.house.rows) (r := x.row)
            have := z.rows
            omega
          · rw [pe]; rfl
        · rw [hx]
end
end TC
set_option Elab.async false
set_option linter.all false
set_option maxRecDepth 100000
set_option maxHeartbeats 4000000
/-! The law's mesh and tug. -/
namespace TC
open PySem L2
structure Msh where
  a : Addr
  b : Addr
  xs : List Int
  left : Nat
  turn : Nat
  at_ : Nat
def mshT (m : Msh) : MT := .n m.a .lst [.n m.b .lst ((m.xs.map PyData.int).map MT.d), .d (dI m.left), .d (dI m.turn), .d (dI m.at_)]
abbrev MW (K : PySem.W.Frag) (m : Msh) : Wld := TWd K (.ref m.a) (mshT m)
section
variable {X : Cx} {ρ : List Sl} {a b c e f o x : Expr} {pos p : Pos}
theorem td_ltI {i j : Int} (ha : ED X ρ a (.int i)) (hb : ED X ρ b (.int j)) : TD X ρ (.Compare a [.Lt] [b] pos) (decide (i < j)) := td_is (td_cmp op_lt ha hb rI0_ok (nomark _)) rfl
theorem td_geI {i j : Int} (ha : ED X ρ a (.int i)) (hb : ED X ρ b (.int j)) : TD X ρ (.Compare a [.GtE] [b] pos) (decide (j ≤ i)) := td_is (td_cmp op_ge ha hb rI0_ok (nomark _)) rfl
theorem ed_powI {i j : Int} (ha : ED X ρ a (.int i)) (hb : ED X ρ b (.int j)) (hc : CPow i j) : ED X ρ (.BinOp a .Pow b pos) (.int (i ^ j.toNat)) := ed_opI op_pow ha hb hc
end
def figO (m : Msh) : Int := if m.xs = [] then 12 else (m.xs[m.at_ % m.xs.length]?).getD 0
theorem ints_lay (xs : List Int) : SeqAt.shaped (.list (xs.map PyData.int)) = true := Lay.shaped (n := 1) (lay_lst fun d hd => by
  obtain ⟨i, _, rfl⟩ := List.mem_map.mp hd
  exact lay_int i)
section
variable {P : Program} {w : World} {K : PySem.W.Frag} {mg : Str → Option Value} {base : Heap}
theorem sc_tug : FnScope ["_law_mesh_here", "_law_many", "_law_turn", "_law_found", "_law_at", "_law_figure", "_law_mixed"] ["_law_mesh_here", "_law_many"] (defScope (top 75)) := ⟨rfl, rfl, rfl, by decide +kernel, rfl, by decide +kernel, by decide +kernel⟩
/-- the mesh behind a tug -/
structure TugTo (m m' : Msh) : Prop where
  a : m'.a = m.a
  xs : m'.xs = m.xs
  turn : m'.turn = m.turn + 1
def R_tug (K : PySem.W.Frag) (xs : List Sl) (Q : Sl → Wld → Prop) : Prop := ∃ (m : Msh) (many : Nat), xs = [.w (.ref m.a) (MW K m), .d (dI many)] ∧ 0 < many ∧ many < 1073741824 ∧ m.turn < 1000000 ∧ m.xs.length ≤ 1000 ∧ ∀ (r : Nat) (m' : Msh), r < many → TugTo m m' → Q (.d (dI r)) (MW K m')
theorem c_tug (T : Bl mg) (O : Own K mg "_law_tug" (defD "_law_tug" (top 75)) []) : Cal P w K mg base 1 "_law_tug" (MSp K (R_tug K)) [] := by
  refine cal_mut O sc_tug ?_ (by decide) (fun _ _ _ _ _ _ us hl => match us, hl with | [_, _], _ => rfl) ?_
  · rintro xs Q ⟨m, many, rfl, _⟩; rfl
  · rintro f cdv A outer s H E hr v W xs Q ⟨m, many, e, m0, m1, mt, mx, hQ⟩
    cases e
    have hsz := sz
    have nd := sc_tug.nd
    have hu := roomU64 hr
    obtain ⟨ma, mb, mxs, left, turn, at_⟩ := m
    simp only at mt mx hQ
    refine sjs_set 2 (y := .d (dI turn)) (EV.eq (ev_idx (n := 2) (ev_w 0) ed_k (At.mk [] (hf_w 0)) rfl) rfl) ?_ nd
    refine sjs_tidx 0 (pth := []) (j := 2) rfl (ev_w 0) ed_k (en_d (ed_addn (ed_var 2) ed_k)) rfl (by show 2 < 4; decide) (fun c hc => ?_)
    subst hc
    refine SJs.to [.w (.ref ma) (MW K ⟨ma, mb, mxs, left, turn + 1, at_⟩), .d (dI many), .d (dI turn), .no, .no, .no, .no] ?_
    refine sjs_cons (M := fun ρ => left = 0 ∧ ρ = [.w (.ref ma) (MW K ⟨ma, mb, mxs, left, turn + 1, at_⟩), .d (dI many), .d (dI turn), .no, .no, .no, .no]) (sj_if (td_gtn (i := left) (j := 0) (EV.eq (ev_idx (n := 1) (ev_w 0) ed_k (At.mk [] (hf_w 0)) rfl) rfl) ed_k) (fun h => ?_) fun h => sjs_nil ⟨by have := of_decide_eq_false h; omega, rfl⟩) ?_
    · refine sjs_set 3 (y := .d (dI (left % many))) (ed_modn (EV.eq (ev_idx (n := 1) (ev_w 0) ed_k (At.mk [] (hf_w 0)) rfl) rfl) (ed_var 1) m0) ?_ nd
      refine sjs_tidx 0 (pth := []) (j := 1) rfl (ev_w 0) ed_k (en_d (ed_divn (EV.eq (ev_idx (n := 1) (ev_w 0) ed_k (At.mk [] (hf_w 0)) rfl) rfl) (ed_var 1) ⟨m0, m1⟩)) rfl (by show 1 < 4; decide) (fun c hc => ?_)
      subst hc
      exact sjs_ret (ed_var 3) ⟨MW K ⟨ma, mb, mxs, left / many, turn + 1, at_⟩, rfl, hQ _ _ (Nat.mod_lt _ m0) ⟨rfl, rfl, rfl⟩⟩
    · rintro ρ ⟨rfl, rfl⟩
      refine sjs_set 4 (y := .d (dI at_)) (EV.eq (ev_idx (n := 3) (ev_w 0) ed_k (At.mk [] (hf_w 0)) rfl) rfl) ?_ nd
      refine sjs_tidx 0 (pth := []) (j := 3) rfl (ev_w 0) ed_k (en_d (ed_addn (ed_var 4) ed_k)) rfl (by show 3 < 4; decide) (fun c hc => ?_)
      subst hc
      refine SJs.to [.w (.ref ma) (MW K ⟨ma, mb, mxs, 0, turn + 1, at_ + 1⟩), .d (dI many), .d (dI turn), .no, .d (dI at_), .no, .no] ?_
      refine sjs_set 5 (y := .d (.int (figO ⟨ma, mb, mxs, 0, turn, at_⟩))) (ev_if (k := !decide (mxs = [])) (td_is (td_neL (es := []) hu (er_at (t := mb) (ds := mxs.map PyData.int) (EV.eq (ev_idx (n := 0) (ev_w 0) ed_k (At.mk [] (hf_w 0)) rfl) rfl) (At.mk [0] (hf_w 0))) (er_new (ev_lst ad_nild)) (ints_lay _) (ints_lay [])) ?_) (fun h => ?_) fun h => ?_) ?_ nd
      · cases mxs <;> simp [PyData.eqv, PyData.eqvAll]
      · have hx : mxs ≠ [] := by simpa using h
        have hl : 0 < mxs.length := List.length_pos_iff.mpr hx
        have hlt : at_ % mxs.length < mxs.length := Nat.mod_lt _ hl
        unfold figO
        simp only [if_neg hx]
        rw [List.getElem?_eq_getElem hlt, Option.getD_some]
        refine EV.eq (ev_idx (t := mb) (cs := (mxs.map PyData.int).map MT.d) (n := at_ % mxs.length) (x := .d (.int mxs[at_ % mxs.length])) (EV.eq (ev_idx (n := 0) (ev_w 0) ed_k (At.mk [] (hf_w 0)) rfl) rfl) (ed_modn (ed_var 4) (ed_is (ed_lenAt (t := mb) (cs := (mxs.map PyData.int).map MT.d) T.len (EV.eq (ev_idx (n := 0) (ev_w 0) ed_k (At.mk [] (hf_w 0)) rfl) rfl) (At.mk [0] (hf_w 0))) (by rw [List.length_map, List.length_map])) hl) (At.mk [0] (hf_w 0)) ?_) rfl
        rw [List.getElem?_map, List.getElem?_map, List.getElem?_eq_getElem hlt]
        rfl
      · have hx : mxs = [] := by simpa using h
        unfold figO
        simp only [if_pos hx]
        exact ed_int
      refine SJs.to [.w (.ref ma) (MW K ⟨ma, mb, mxs, 0, turn + 1, at_ + 1⟩), .d (dI many), .d (dI turn), .no, .d (dI at_), .d (.int (figO ⟨ma, mb, mxs, 0, turn, at_⟩)), .no] ?_
      generalize hfg : figO ⟨ma, mb, mxs, 0, turn, at_⟩ = fig
      refine sjs_cons (M := fun ρ => ρ = [.w (.ref ma) (MW K ⟨ma, mb, mxs, 0, turn + 1, at_ + 1⟩), .d (dI many), .d (dI turn), .no, .d (dI at_), .d (.int fig), .no]) (sj_if (TW.td (tw_and (k := decide (10 ^ (18 : Int).toNat ≤ fig)) (td_geI (ed_var 5) (ed_powI ed_int ed_int (by unfold CPow; omega))) fun _ => tw_and1 (td_ltn (ed_var 4) (ed_lenAt (t := mb) (cs := (mxs.map PyData.int).map MT.d) T.len (EV.eq (ev_idx (n := 0) (ev_w 0) ed_k (At.mk [] (hf_w 0)) rfl) rfl) (At.mk [0] (hf_w 0)))))) (fun h => ?_) fun h => sjs_nil rfl) ?_
      · have hf : 10 ^ (18 : Int).toNat ≤ fig := of_decide_eq_true (Bool.and_eq_true_iff.mp h).1
        have h0 : 0 ≤ fig := by
          have : (0 : Int) ≤ 10 ^ (18 : Int).toNat := by decide
          omega
        have en : fig = ((fig.toNat : Nat) : Int) := by omega
        have v5 : ∀ (X : Cx) (ρ : List Sl) (e : Expr), ED X ρ e (.int fig) → ED X ρ e (dI fig.toNat) := fun X ρ e h => by
          unfold dI; rw [← en]; exact h
        refine sjs_tidx 0 (pth := []) (j := 1) rfl (ev_w 0) ed_k (en_d (ed_divn (v5 _ _ _ (ed_var 5)) (ed_var 1) ⟨m0, m1⟩)) rfl (by show 1 < 4; decide) (fun c hc => ?_)
        subst hc
        exact sjs_ret (ed_modn (v5 _ _ _ (ed_var 5)) (ed_var 1) m0) ⟨MW K ⟨ma, mb, mxs, fig.toNat / many, turn + 1, at_ + 1⟩, rfl, hQ _ _ (Nat.mod_lt _ m0) ⟨rfl, rfl, rfl⟩⟩
      · rintro ρ rfl
        have hm0 : 0 ≤ fig % 2147483587 := Int.emod_nonneg _ (by decide)
        have hm1 : fig % 2147483587 < 2147483587 := Int.emod_lt_of_pos _ (by decide)
        obtain ⟨g, hg⟩ : ∃ g : Nat, fig % 2147483587 = (g : Int) := ⟨(fig % 2147483587).toNat, by omega⟩
        have hg1 : g < 2147483587 := by omega
        have t1 : 8513 * turn < 8513000000 := by omega
        have t2 : 8513 * turn * turn < 8513000000 * 1000000 := Nat.mul_lt_mul_of_lt_of_lt t1 mt
        refine sjs_set 6 (y := .d (dI (g + 8513 * turn * turn + 1187 * turn + 257))) (ed_addn (ed_addn (ed_addn (ed_is (ed_mod (ed_var 5) ed_int (by decide)) (by unfold dI; rw [← hg])) (ed_muln (ed_muln ed_k (ed_var 2) (.inl (by decide))) (ed_var 2) (.inl (by omega)))) (ed_muln ed_k (ed_var 2) (.inl (by decide)))) ed_k) ?_ nd
        generalize hz : g + 8513 * turn * turn + 1187 * turn + 257 = z
        have z1 : z < 2 ^ 64 := by omega
        refine sjs_set 6 (y := .d (dI ((z * z + 50021 * turn + 59) % 2147483563))) (ed_modn (ed_addn (ed_addn (ed_muln (ed_var 6) (ed_var 6) (.inl z1)) (ed_muln ed_k (ed_var 2) (.inl (by decide)))) ed_k) ed_k (by decide)) ?_ nd
        have z2 : (z * z + 50021 * turn + 59) % 2147483563 < 2147483563 := Nat.mod_lt _ (by decide)
        generalize (z * z + 50021 * turn + 59) % 2147483563 = y at z2
        exact sjs_ret (ed_modn (ed_divn (ed_modn (ed_addn (ed_muln (ed_var 6) (ed_var 6) (.inl (by omega))) (ed_muln ed_k (ed_var 6) (.inl (by decide)))) ed_k (by decide)) ed_k (by decide)) (ed_var 1) m0) ⟨MW K ⟨ma, mb, mxs, 0, turn + 1, at_ + 1⟩, rfl, hQ _ _ (Nat.mod_lt _ m0) ⟨rfl, rfl, rfl⟩⟩
end
end TC
set_option Elab.async false
set_option linter.all false
set_option maxRecDepth 100000
set_option maxHeartbeats 4000000
/-! The law's mesh made; its deal. -/
namespace TC
open PySem L2
/-- the mesh behind so many tugs at most -/
structure TugN (k : Nat) (m m' : Msh) : Prop where
  a : m'.a = m.a
  xs : m'.xs = m.xs
  turn : m'.turn ≤ m.turn + k
theorem TugTo.n {m m' : Msh} (h : TugTo m m') : TugN 1 m m' := ⟨h.a, h.xs, by rw [h.turn]; exact Nat.le_refl _⟩
theorem TugN.rf (m : Msh) : TugN 0 m m := ⟨rfl, rfl, Nat.le_refl _⟩
theorem TugN.tr {j k : Nat} {m m1 m2 : Msh} (h : TugN j m m1) (g : TugN k m1 m2) : TugN (j + k) m m2 := ⟨g.a.trans h.a, g.xs.trans h.xs, by have := h.turn; have := g.turn; omega⟩
theorem TugN.up {j k : Nat} {m m' : Msh} (h : TugN j m m') (hk : j ≤ k) : TugN k m m' := ⟨h.a, h.xs, by have := h.turn; omega⟩
/-- a mesh that may be tugged still -/
structure MOk (m : Msh) (c : Nat) : Prop where
  turn : m.turn + c ≤ 1000000
  xs : m.xs.length ≤ 1000
theorem MOk.to {m m' : Msh} {c k : Nat} (h : MOk m (c + k)) (t : TugN k m m') : MOk m' c := ⟨by have := h.turn; have := t.turn; omega, by rw [t.xs]; exact h.xs⟩
theorem MOk.dn {m : Msh} {c d : Nat} (h : MOk m c) (hd : d ≤ c) : MOk m d := ⟨by have := h.turn; omega, h.xs⟩
section
variable {X : Cx} {ρ : List Sl} {i : Nat} {a e : Expr} {pos p px : Pos} {y : Str} {m : Msh} {many j : Nat}
theorem eo_tug (ct : Cal X.prog X.w X.K X.mg X.base 1 "_law_tug" (MSp X.K (R_tug X.K)) []) (hr : Room j X.A) (h0 : ρ[i]? = some (.w (.ref m.a) (MW X.K m))) (hm : MOk m 1) (hn : EV X ρ (.Name y px) (.r (.ref m.a))) (he : ED X ρ e (dI many)) (h1 : 0 < many) (h2 : many < 1073741824) (hj : 1 ≤ j := by decide) (hg : Gl X "_law_tug" := by rfl)
    (hs1 : starEach [.Name y px, e] X.env = (false, eval (.Name y px) X.env) :: starEach [e] X.env := by rfl) (hs2 : starEach [e] X.env = (false, eval e X.env) :: starEach [] X.env := by rfl) (hpl : (backTo pos (starEach [e] X.env)).any (·.1) = false := by rfl) :
    EO X ρ i (.ref m.a) (MW X.K m) (.Call (.Name "_law_tug" p) [.Name y px, e] [] pos) (fun d W' => ∃ (r : Nat) (m' : Msh), r < many ∧ TugTo m m' ∧ d = dI r ∧ W' = MW X.K m') :=
  eo_call (xs := [.d (dI many)]) (PP := fun z W' => ∃ (r : Nat) (m' : Msh), r < many ∧ TugTo m m' ∧ z = .d (dI r) ∧ W' = MW X.K m') ct hr h0 (ad_cons hn (ad_cons he ad_nil hs2) hs1) (fun z hz => ⟨_, List.mem_singleton.mp hz⟩) ⟨m, many, rfl, h1, h2, by have := hm.turn; omega, hm.xs, fun r m' hr ht => ⟨r, m', hr, ht, rfl, rfl⟩⟩ (fun z W' h => by
    obtain ⟨r, m', h1, h2, rfl, rfl⟩ := h
    exact ⟨_, rfl, r, m', h1, h2, rfl, rfl⟩) hj hg (by decide) hs1 hpl
/-- [..][tug] -/
theorem eo_pick {ds : List PyData} (ct : Cal X.prog X.w X.K X.mg X.base 1 "_law_tug" (MSp X.K (R_tug X.K)) []) (hr : Room j X.A) (h0 : ρ[i]? = some (.w (.ref m.a) (MW X.K m))) (hm : MOk m 1) (hd : EV X ρ a (.l ds)) (hn : EV X ρ (.Name y px) (.r (.ref m.a))) (he : ED X ρ e (dI many)) (hl : ds.length = many) (φ : PyData → Prop) (hφ : ∀ z ∈ ds, φ z) (h1 : 0 < many) (h2 : many < 1073741824) (hj : 1 ≤ j := by decide) (hg : Gl X "_law_tug" := by rfl)
    (hs1 : starEach [.Name y px, e] X.env = (false, eval (.Name y px) X.env) :: starEach [e] X.env := by rfl) (hs2 : starEach [e] X.env = (false, eval e X.env) :: starEach [] X.env := by rfl) (hpl : (backTo pos (starEach [e] X.env)).any (·.1) = false := by rfl) {pos2 : Pos} (hs : PlainIx (.Call (.Name "_law_tug" p) [.Name y px, e] [] pos) := by exact fun _ _ => rfl) :
    EO X ρ i (.ref m.a) (MW X.K m) (.Subscript a (.Call (.Name "_law_tug" p) [.Name y px, e] [] pos) pos2) (fun d W' => ∃ m' : Msh, φ d ∧ TugTo m m' ∧ W' = MW X.K m') :=
  eo_ixL h0 hd (eo_tug ct hr h0 hm hn he h1 h2 hj hg hs1 hs2 hpl) (fun d W' h => by
    obtain ⟨r, m', hr, ht, rfl, rfl⟩ := h
    have hr' : r < ds.length := by rw [hl]; exact hr
    exact ⟨r, ds[r], rfl, List.getElem?_eq_getElem hr', m', hφ _ (List.getElem_mem _), ht, rfl⟩) hs
end
/-! ### what is dealt -/
def OkCall (c : CallS) : Prop := PyData.strOk c.cell = true ∧ c.number ≤ 9 ∧ c.span ≤ 20
def OkRate (r : Fr) : Prop := 0 < r.2 ∧ r.2 ≤ 3 ∧ r.1 ≤ r.2
def OkMost (r : Fr) : Prop := 0 < r.2 ∧ r.2 ≤ 2 ∧ r.1 ≤ 5
def OkClr (c : ClrS) : Prop := c.groups.length ≤ 2 ∧ (∀ g ∈ c.groups, g.length ≤ 4 ∧ ∀ k ∈ g, OkCall k) ∧ OkRate c.rate ∧ OkMost c.most
theorem wfS_of {S : Setting} (h1 : S.callers.length ≤ 3) (h2 : ∀ c ∈ S.callers, OkClr c) (h3 : 1 ≤ S.window ∧ S.window ≤ 3) (h4 : 1 ≤ S.patience ∧ S.patience ≤ 4) : WfS S :=
  ⟨h1, fun c hc => (h2 c hc).1, fun c hc g hg => ((h2 c hc).2.1 g hg).1, fun c hc g hg k hk => ((h2 c hc).2.1 g hg).2 k hk, fun c hc => (h2 c hc).2.2.1, fun c hc => (h2 c hc).2.2.2, h3, h4⟩
theorem mem_snoc {α : Type} {φ : α → Prop} {xs : List α} {x : α} (h : ∀ y ∈ xs, φ y) (hx : φ x) : ∀ y ∈ xs ++ [x], φ y := fun y hy => by
  rcases List.mem_append.mp hy with hy | hy
  · exact h y hy
  · rw [List.mem_singleton.mp hy]; exact hx
section
variable {P : Program} {w : World} {K : PySem.W.Frag} {mg : Str → Option Value} {base : Heap}
theorem sc_deal : FnScope ["_law_mesh_here", "_law_folk", "_law_who", "_law_groups", "_law_g", "_law_calls", "_law_n", "_law_cell", "_law_number", "_law_rate"] ["_law_mesh_here"] (defScope (top 76)) := ⟨rfl, rfl, rfl, by decide +kernel, rfl, by decide +kernel, by decide +kernel⟩
def R_deal (K : PySem.W.Frag) (xs : List Sl) (Q : Sl → Wld → Prop) : Prop := ∃ m : Msh, xs = [.w (.ref m.a) (MW K m)] ∧ MOk m 200 ∧ ∀ (S : Setting) (m' : Msh), WfS S → 1 ≤ S.callers.length → TugN 200 m m' → Q (.d (eSetting S)) (MW K m')
theorem c_deal (T : Bl mg) (O : Own K mg "_law_deal" (defD "_law_deal" (top 76)) []) (ct : Cal P w K mg base 1 "_law_tug" (MSp K (R_tug K)) []) : Cal P w K mg base 2 "_law_deal" (MSp K (R_deal K)) [] := by
  refine cal_mut O sc_deal ?_ (by decide) (fun _ _ _ _ _ _ us hl => match us, hl with | [_], _ => rfl) ?_
  · rintro xs Q ⟨m, rfl, _⟩; rfl
  · rintro f cdv A outer s H E hr v W xs Q ⟨m, e, hm, hQ⟩
    cases e
    have hsz := sz
    have nd := sc_deal.nd
    refine sjs_set 1 (y := .l []) (ev_lst ad_nild) ?_ nd
    refine SJs.to [.w (.ref m.a) (MW K m), .l [], .no, .no, .no, .no, .no, .no, .no, .no] ?_
    refine sjs_cons (M := fun ρ => ∃ (m1 : Msh) (folk : List ClrS) (s2 s3 s4 s5 s6 s7 s8 s9 : Sl), TugN 100 m m1 ∧ 1 ≤ folk.length ∧ folk.length ≤ 3 ∧ (∀ c ∈ folk, OkClr c) ∧ ρ = [.w (.ref m1.a) (MW K m1), .l (folk.map eClrS), s2, s3, s4, s5, s6, s7, s8, s9])
      (sj_forO (i := 0) rfl T.range (eo_add ed_k (eo_tug ct hr rfl (hm.dn (by decide)) (ev_w 0) ed_k (by decide) (by decide)) (P := fun d W' => ∃ (n : Nat) (m' : Msh), d = dI n ∧ 1 ≤ n ∧ n ≤ 3 ∧ TugTo m m' ∧ W' = MW K m') (fun d W' h => ?_))
        (fun n k ρ => 1 ≤ n ∧ n ≤ 3 ∧ ∃ (m1 : Msh) (folk : List ClrS) (s2 s3 s4 s5 s6 s7 s8 s9 : Sl), TugN (1 + 29 * k) m m1 ∧ folk.length = k ∧ (∀ c ∈ folk, OkClr c) ∧ ρ = [.w (.ref m1.a) (MW K m1), .l (folk.map eClrS), s2, s3, s4, s5, s6, s7, s8, s9]) (fun d W' h => ?_) (fun n k ρ hk h => ?_) (fun n ρ h => ?_) rfl PassesOwn.never) ?_
    · obtain ⟨r, m', hr', ht, rfl, rfl⟩ := h
      have hr' : r < 3 := hr'
      exact ⟨r, rfl, 1 + r, m', rfl, by omega, by omega, ht, rfl⟩
    · obtain ⟨n, m', rfl, n1, n2, ht, rfl⟩ := h
      refine ⟨n, rfl, by omega, n1, n2, m', [], .no, .no, .no, .no, .no, .no, .no, .no, ht.n, rfl, (fun c hc => by cases hc), ?_⟩
      rw [ht.a]; rfl
    · obtain ⟨n1, n2, m1, folk, s2, s3, s4, s5, s6, s7, s8, s9, tn, rfl, okf, rfl⟩ := h
      refine ⟨[(2, dI folk.length)], gd_name 2 nd, ?_⟩
      have hm1 : MOk m1 60 := (hm.dn (d := 60 + (1 + 29 * folk.length)) (by omega)).to tn
      refine sjs_set 3 (y := .l []) (ev_lst ad_nild) ?_ nd
      refine SJs.to [.w (.ref m1.a) (MW K m1), .l (folk.map eClrS), .d (dI folk.length), .l [], s4, s5, s6, s7, s8, s9] ?_
      refine sjs_cons (M := fun ρ => ∃ (m2 : Msh) (groups : List (List CallS)) (s4 s5 s6 s7 s8 s9 : Sl), TugN 27 m1 m2 ∧ groups.length ≤ 2 ∧ (∀ g ∈ groups, g.length ≤ 4 ∧ ∀ k ∈ g, OkCall k) ∧ ρ = [.w (.ref m2.a) (MW K m2), .l (folk.map eClrS), .d (dI folk.length), .l (groups.map eGrpS), s4, s5, s6, s7, s8, s9])
        (sj_forO (i := 0) rfl T.range (eo_pick ct hr rfl (hm1.dn (by decide)) (ev_lst (ds := [dI 1, dI 1, dI 2, dI 0]) (ad_consd ed_k (ad_consd ed_k (ad_consd ed_k (ad_consd ed_k ad_nild))))) (ev_w 0) ed_k rfl (fun z => ∃ n : Nat, z = dI n ∧ n ≤ 2) (fun z hz => ?_) (by decide) (by decide))
          (fun n k ρ => n ≤ 2 ∧ ∃ (m2 : Msh) (groups : List (List CallS)) (s4 s5 s6 s7 s8 s9 : Sl), TugN (1 + 13 * k) m1 m2 ∧ groups.length = k ∧ (∀ g ∈ groups, g.length ≤ 4 ∧ ∀ k ∈ g, OkCall k) ∧ ρ = [.w (.ref m2.a) (MW K m2), .l (folk.map eClrS), .d (dI folk.length), .l (groups.map eGrpS), s4, s5, s6, s7, s8, s9]) (fun d W' h => ?_) (fun n k ρ hk h => ?_) (fun n ρ h => ?_) rfl PassesOwn.never) ?_
      · simp only [List.mem_cons, List.not_mem_nil, or_false] at hz
        rcases hz with rfl | rfl | rfl | rfl
        · exact ⟨1, rfl, by decide⟩
        · exact ⟨1, rfl, by decide⟩
        · exact ⟨2, rfl, by decide⟩
        · exact ⟨0, rfl, by decide⟩
      · obtain ⟨m', ⟨n, rfl, n3⟩, ht, rfl⟩ := h
        refine ⟨n, rfl, by omega, n3, m', [], s4, s5, s6, s7, s8, s9, ht.n, rfl, (fun c hc => by cases hc), ?_⟩
        rw [ht.a]; rfl
      · obtain ⟨n3, m2, groups, s4, s5, s6, s7, s8, s9, tn2, rfl, okg, rfl⟩ := h
        refine ⟨[(4, dI groups.length)], gd_name 4 nd, ?_⟩
        have hm2 : MOk m2 20 := (hm1.dn (d := 20 + (1 + 13 * groups.length)) (by omega)).to tn2
        refine sjs_set 5 (y := .l []) (ev_lst ad_nild) ?_ nd
        refine SJs.to [.w (.ref m2.a) (MW K m2), .l (folk.map eClrS), .d (dI folk.length), .l (groups.map eGrpS), .d (dI groups.length), .l [], s6, s7, s8, s9] ?_
        refine sjs_cons (M := fun ρ => ∃ (m3 : Msh) (calls : List CallS) (s6 s7 s8 s9 : Sl), TugN 13 m2 m3 ∧ calls.length ≤ 4 ∧ (∀ k ∈ calls, OkCall k) ∧ ρ = [.w (.ref m3.a) (MW K m3), .l (folk.map eClrS), .d (dI folk.length), .l (groups.map eGrpS), .d (dI groups.length), .l (calls.map eCallS), s6, s7, s8, s9])
          (sj_forO (i := 0) rfl T.range (eo_pick ct hr rfl (hm2.dn (by decide)) (ev_lst (ds := [dI 2, dI 3, dI 1, dI 4, dI 0]) (ad_consd ed_k (ad_consd ed_k (ad_consd ed_k (ad_consd ed_k (ad_consd ed_k ad_nild)))))) (ev_w 0) ed_k rfl (fun z => ∃ n : Nat, z = dI n ∧ n ≤ 4) (fun z hz => ?_) (by decide) (by decide))
            (fun n k ρ => n ≤ 4 ∧ ∃ (m3 : Msh) (calls : List CallS) (s6 s7 s8 s9 : Sl), TugN (1 + 3 * k) m2 m3 ∧ calls.length = k ∧ (∀ k ∈ calls, OkCall k) ∧ ρ = [.w (.ref m3.a) (MW K m3), .l (folk.map eClrS), .d (dI folk.length), .l (groups.map eGrpS), .d (dI groups.length), .l (calls.map eCallS), s6, s7, s8, s9]) (fun d W' h => ?_) (fun n k ρ hk h => ?_) (fun n ρ h => ?_) rfl PassesOwn.never) ?_
        · simp only [List.mem_cons, List.not_mem_nil, or_false] at hz
          rcases hz with rfl | rfl | rfl | rfl | rfl
          · exact ⟨2, rfl, by decide⟩
          · exact ⟨3, rfl, by decide⟩
          · exact ⟨1, rfl, by decide⟩
          · exact ⟨4, rfl, by decide⟩
          · exact ⟨0, rfl, by decide⟩
        · obtain ⟨m', ⟨n, rfl, n4⟩, ht, rfl⟩ := h
          refine ⟨n, rfl, by omega, n4, m', [], s6, s7, s8, s9, ht.n, rfl, (fun c hc => by cases hc), ?_⟩
          rw [ht.a]; rfl
        · obtain ⟨n4, m3, calls, s6, s7, s8, s9, tn3, rfl, okc, rfl⟩ := h
          refine ⟨[(6, dI calls.length)], gd_name 6 nd, ?_⟩
          have hm3 : MOk m3 5 := (hm2.dn (d := 5 + (1 + 3 * calls.length)) (by omega)).to tn3
          refine SJs.to [.w (.ref m3.a) (MW K m3), .l (folk.map eClrS), .d (dI folk.length), .l (groups.map eGrpS), .d (dI groups.length), .l (calls.map eCallS), .d (dI calls.length), s7, s8, s9] ?_
          refine sjs_parO (i := 0) 7 8 rfl (eo_pick ct hr rfl (hm3.dn (by decide)) (ev_lst (ds := [.str "till", .str "box"]) (ad_consd ed_str (ad_consd ed_str ad_nild))) (ev_w 0) ed_k rfl (fun z => ∃ c : Str, z = .str c ∧ PyData.strOk c = true) (fun z hz => ?_) (by decide) (by decide)) (fun d W' h => ?_) rfl nd
          · simp only [List.mem_cons, List.not_mem_nil, or_false] at hz
            rcases hz with rfl | rfl
            · exact ⟨_, rfl, by decide +kernel⟩
            · exact ⟨_, rfl, by decide +kernel⟩
          obtain ⟨m4, ⟨cell, rfl, okcell⟩, t4, rfl⟩ := h
          have hm4 : MOk m4 4 := hm3.to t4.n
          rw [← t4.a]
          refine EO.imp (eo_add ed_k (eo_tug (m := m4) ct hr rfl (hm4.dn (by decide)) (ev_w 0) ed_k (by decide) (by decide)) (P := fun d W' => ∃ (n : Nat) (m' : Msh), d = dI n ∧ n ≤ 9 ∧ TugTo m4 m' ∧ W' = MW K m') (fun d W' h => ?_)) (fun d2 W2 h2 => ?_)
          · obtain ⟨r, m', hr', ht, rfl, rfl⟩ := h
            have hr' : r < 9 := hr'
            exact ⟨r, rfl, 1 + r, m', rfl, by omega, ht, rfl⟩
          obtain ⟨number, m5, rfl, n9, t5, rfl⟩ := h2
          have hm5 : MOk m5 3 := hm4.to t5.n
          rw [← t5.a]
          refine SJs.to [.w (.ref m5.a) (MW K m5), .l (folk.map eClrS), .d (dI folk.length), .l (groups.map eGrpS), .d (dI groups.length), .l (calls.map eCallS), .d (dI calls.length), .d (.str cell), .d (dI number), s9] ?_
          refine sjs_appO (i := 0) 5 (ds := calls.map eCallS) (P := fun d W' => ∃ (span : Nat) (m6 : Msh), span ≤ 20 ∧ TugTo m5 m6 ∧ d = eCallS ⟨cell, number, span⟩ ∧ W' = MW K m6) rfl (by decide) rfl (eo_tup (ao_cons rfl (eo_pure (P := fun d W' => d = .str cell ∧ W' = MW K m5) rfl (ed_var 7) ⟨rfl, rfl⟩) fun d1 W1 h1 => ?_)) (by rw [List.length_map]; omega) (fun d W' h => ?_) (slot_name 5)
          · obtain ⟨rfl, rfl⟩ := h1
            refine ao_cons rfl (eo_pure (P := fun d W' => d = dI number ∧ W' = MW K m5) rfl (ed_var 8) ⟨rfl, rfl⟩) fun d1 W1 h1 => ?_
            obtain ⟨rfl, rfl⟩ := h1
            refine ao_cons rfl (eo_pick (m := m5) ct hr rfl (hm5.dn (by decide)) (ev_lst (ds := [dI 0, dI 1, dI 4, dI 9, dI 20]) (ad_consd ed_k (ad_consd ed_k (ad_consd ed_k (ad_consd ed_k (ad_consd ed_k ad_nild)))))) (ev_w 0) ed_k rfl (fun z => ∃ n : Nat, z = dI n ∧ n ≤ 20) (fun z hz => ?_) (by decide) (by decide)) fun d1 W1 h1 => ?_
            · simp only [List.mem_cons, List.not_mem_nil, or_false] at hz
              rcases hz with rfl | rfl | rfl | rfl | rfl
              · exact ⟨0, rfl, by decide⟩
              · exact ⟨1, rfl, by decide⟩
              · exact ⟨4, rfl, by decide⟩
              · exact ⟨9, rfl, by decide⟩
              · exact ⟨20, rfl, by decide⟩
            · obtain ⟨m6, ⟨span, rfl, n20⟩, t6, rfl⟩ := h1
              exact ao_nil rfl ⟨⟨span, m6, n20, t6, rfl, rfl⟩, by show 3 ≤ sizeLine; omega⟩
          · obtain ⟨span, m6, n20, t6, rfl, rfl⟩ := h
            rw [← t6.a]
            refine sjs_nil ⟨n4, m6, calls ++ [⟨cell, number, span⟩], .d (dI calls.length), .d (.str cell), .d (dI number), s9, ((tn3.tr t4.n).tr (t5.n.tr t6.n)).up (by omega), by simp, mem_snoc okc ⟨okcell, n9, n20⟩, ?_⟩
            rw [List.map_append]; rfl
        · obtain ⟨n4, m3, calls, s6, s7, s8, s9, tn3, rfl, okc, rfl⟩ := h
          exact ⟨m3, calls, s6, s7, s8, s9, tn3.up (by omega), n4, okc, rfl⟩
        · rintro ρ ⟨m3, calls, s6, s7, s8, s9, tn3, lc, okc, rfl⟩
          refine sjs_app 3 (ds := groups.map eGrpS) (d := eGrpS calls) (ed_tupOf T.tuple (er_var 5)) rfl (by rw [List.length_map]; omega) (sjs_nil ?_) (slot_name 3)
          refine ⟨n3, m3, groups ++ [calls], .d (dI groups.length), .l (calls.map eCallS), s6, s7, s8, s9, (tn2.tr tn3).up (by omega), by simp, mem_snoc okg ⟨lc, okc⟩, ?_⟩
          rw [List.map_append]; rfl
      · obtain ⟨n3, m2, groups, s4, s5, s6, s7, s8, s9, tn2, rfl, okg, rfl⟩ := h
        exact ⟨m2, groups, s4, s5, s6, s7, s8, s9, tn2.up (by omega), n3, okg, rfl⟩
      · rintro ρ ⟨m2, groups, s4, s5, s6, s7, s8, s9, tn2, lg, okg, rfl⟩
        have hm2 : MOk m2 10 := (hm1.dn (d := 10 + 27) (by omega)).to tn2
        refine sjs_setO (i := 0) 9 rfl (eo_pick ct hr rfl (hm2.dn (by decide)) (ev_lst (ds := [.tuple [dI 1, dI 2], .tuple [dI 0, dI 1], .tuple [dI 1, dI 1], .tuple [dI 1, dI 3]]) (ad_consd (ed_tup (ad_consd ed_k (ad_consd ed_k ad_nild))) (ad_consd (ed_tup (ad_consd ed_k (ad_consd ed_k ad_nild))) (ad_consd (ed_tup (ad_consd ed_k (ad_consd ed_k ad_nild))) (ad_consd (ed_tup (ad_consd ed_k (ad_consd ed_k ad_nild))) ad_nild))))) (ev_w 0) ed_k rfl (fun z => ∃ r : Fr, z = eFr r ∧ OkRate r) (fun z hz => ?_) (by decide) (by decide)) (fun d W' h => ?_) nd
        · simp only [List.mem_cons, List.not_mem_nil, or_false] at hz
          rcases hz with rfl | rfl | rfl | rfl
          · exact ⟨(1, 2), rfl, by unfold OkRate; decide⟩
          · exact ⟨(0, 1), rfl, by unfold OkRate; decide⟩
          · exact ⟨(1, 1), rfl, by unfold OkRate; decide⟩
          · exact ⟨(1, 3), rfl, by unfold OkRate; decide⟩
        obtain ⟨m3, ⟨rate, rfl, okr⟩, t3, rfl⟩ := h
        have hm3 : MOk m3 9 := hm2.to t3.n
        rw [← t3.a]
        refine SJs.to [.w (.ref m3.a) (MW K m3), .l (folk.map eClrS), .d (dI folk.length), .l (groups.map eGrpS), s4, s5, s6, s7, s8, .d (eFr rate)] ?_
        refine sjs_appO (i := 0) 1 (ds := folk.map eClrS) (P := fun d W' => ∃ (most : Fr) (m6 : Msh), OkMost most ∧ TugTo m3 m6 ∧ d = eClrS ⟨groups, rate, most⟩ ∧ W' = MW K m6) rfl (by decide) rfl (eo_tup (ao_cons rfl (eo_pure (P := fun d W' => d = .tuple (groups.map eGrpS) ∧ W' = MW K m3) rfl (ed_tupOf T.tuple (er_var 3)) ⟨rfl, rfl⟩) fun d1 W1 h1 => ?_)) (by rw [List.length_map]; omega) (fun d W' h => ?_) (slot_name 1)
        · obtain ⟨rfl, rfl⟩ := h1
          refine ao_cons rfl (eo_pure (P := fun d W' => d = eFr rate ∧ W' = MW K m3) rfl (ed_var 9) ⟨rfl, rfl⟩) fun d1 W1 h1 => ?_
          obtain ⟨rfl, rfl⟩ := h1
          refine ao_cons rfl (eo_pick (m := m3) ct hr rfl (hm3.dn (by decide)) (ev_lst (ds := [.tuple [dI 2, dI 1], .tuple [dI 1, dI 1], .tuple [dI 0, dI 1], .tuple [dI 5, dI 2]]) (ad_consd (ed_tup (ad_consd ed_k (ad_consd ed_k ad_nild))) (ad_consd (ed_tup (ad_consd ed_k (ad_consd ed_k ad_nild))) (ad_consd (ed_tup (ad_consd ed_k (ad_consd ed_k ad_nild))) (ad_consd (ed_tup (ad_consd ed_k (ad_consd ed_k ad_nild))) ad_nild))))) (ev_w 0) ed_k rfl (fun z => ∃ r : Fr, z = eFr r ∧ OkMost r) (fun z hz => ?_) (by decide) (by decide)) fun d1 W1 h1 => ?_
          · simp only [List.mem_cons, List.not_mem_nil, or_false] at hz
            rcases hz with rfl | rfl | rfl | rfl
            · exact ⟨(2, 1), rfl, by unfold OkMost; decide⟩
            · exact ⟨(1, 1), rfl, by unfold OkMost; decide⟩
            · exact ⟨(0, 1), rfl, by unfold OkMost; decide⟩
            · exact ⟨(5, 2), rfl, by unfold OkMost; decide⟩
          · obtain ⟨m6, ⟨most, rfl, okm⟩, t6, rfl⟩ := h1
            exact ao_nil rfl ⟨⟨most, m6, okm, t6, rfl, rfl⟩, by show 3 ≤ sizeLine; omega⟩
        · obtain ⟨most, m6, okm, t6, rfl, rfl⟩ := h
          rw [← t6.a]
          refine sjs_nil ⟨n1, n2, m6, folk ++ [⟨groups, rate, most⟩], .d (dI folk.length), .l (groups.map eGrpS), s4, s5, s6, s7, s8, .d (eFr rate), ((tn.tr tn2).tr (t3.n.tr t6.n)).up (by omega), by simp, mem_snoc okf ⟨lg, okg, okr, okm⟩, ?_⟩
          rw [List.map_append]; rfl
    · obtain ⟨n1, n2, m1, folk, s2, s3, s4, s5, s6, s7, s8, s9, tn, rfl, okf, rfl⟩ := h
      exact ⟨m1, folk, s2, s3, s4, s5, s6, s7, s8, s9, tn.up (by omega), n1, n2, okf, rfl⟩
    · rintro ρ ⟨m1, folk, s2, s3, s4, s5, s6, s7, s8, s9, tn, lf1, lf, okf, rfl⟩
      have hm1 : MOk m1 100 := (hm.dn (d := 100 + 100) (by decide)).to tn
      refine sjs_retW (R := fun d ρ' => ∃ (win pat : Nat) (m3 : Msh), (1 ≤ win ∧ win ≤ 3) ∧ (1 ≤ pat ∧ pat ≤ 4) ∧ TugN 2 m1 m3 ∧ d = eSetting ⟨folk, win, pat⟩ ∧ ρ' = [.w (.ref m1.a) (MW K m3), .l (folk.map eClrS), s2, s3, s4, s5, s6, s7, s8, s9]) (ew_eo (i := 0) (v := .ref m1.a) (W := MW K m1) (P := fun d W' => ∃ (win pat : Nat) (m3 : Msh), (1 ≤ win ∧ win ≤ 3) ∧ (1 ≤ pat ∧ pat ≤ 4) ∧ TugN 2 m1 m3 ∧ d = eSetting ⟨folk, win, pat⟩ ∧ W' = MW K m3) rfl (eo_tup (ao_cons rfl (eo_pure (P := fun d W' => d = .tuple (folk.map eClrS) ∧ W' = MW K m1) rfl (ed_tupOf T.tuple (er_var 1)) ⟨rfl, rfl⟩) fun d1 W1 h1 => ?_)) (fun d W' h => ?_)) (fun d ρ' h => ?_)
      · obtain ⟨rfl, rfl⟩ := h1
        refine ao_cons rfl (eo_add ed_k (eo_tug (m := m1) ct hr rfl (hm1.dn (by decide)) (ev_w 0) ed_k (by decide) (by decide)) (P := fun d W' => ∃ (n : Nat) (m' : Msh), d = dI n ∧ 1 ≤ n ∧ n ≤ 3 ∧ TugTo m1 m' ∧ W' = MW K m') (fun d W' h => ?_)) fun d1 W1 h1 => ?_
        · obtain ⟨r, m', hr', ht, rfl, rfl⟩ := h
          have hr' : r < 3 := hr'
          exact ⟨r, rfl, 1 + r, m', rfl, by omega, by omega, ht, rfl⟩
        obtain ⟨win, m2, rfl, w1, w2, t2, rfl⟩ := h1
        have hm2 : MOk m2 99 := hm1.to t2.n
        rw [← t2.a]
        refine ao_cons rfl (eo_add ed_k (eo_tug (m := m2) ct hr rfl (hm2.dn (by decide)) (ev_w 0) ed_k (by decide) (by decide)) (P := fun d W' => ∃ (n : Nat) (m' : Msh), d = dI n ∧ 1 ≤ n ∧ n ≤ 4 ∧ TugTo m2 m' ∧ W' = MW K m') (fun d W' h => ?_)) fun d1 W1 h1 => ?_
        · obtain ⟨r, m', hr', ht, rfl, rfl⟩ := h
          have hr' : r < 4 := hr'
          exact ⟨r, rfl, 1 + r, m', rfl, by omega, by omega, ht, rfl⟩
        obtain ⟨pat, m3, rfl, p1, p2, t3, rfl⟩ := h1
        exact ao_nil rfl ⟨⟨win, pat, m3, ⟨w1, w2⟩, ⟨p1, p2⟩, t2.n.tr t3.n, rfl, rfl⟩, by show 3 ≤ sizeLine; omega⟩
      · obtain ⟨win, pat, m3, hw, hp, t3, rfl, rfl⟩ := h
        exact ⟨win, pat, m3, hw, hp, t3, rfl, rfl⟩
      · obtain ⟨win, pat, m3, hw, hp, t3, rfl, rfl⟩ := h
        refine ⟨MW K m3, by rw [tn.a]; rfl, hQ _ m3 (wfS_of lf okf hw hp) lf1 ((tn.tr t3).up (by omega))⟩
end
end TC
set_option Elab.async false
set_option linter.all false
set_option maxRecDepth 100000
set_option maxHeartbeats 4000000
/-! The law's own machine: its tree, what it stands for. -/
namespace TC
open PySem L2
structure CaA where
  a : Addr
  c : Call
def CaA.ds (x : CaA) : List PyData := [dI x.c.first, dI x.c.last, dI x.c.lane, eOAns x.c.ans]
def CaA.t (x : CaA) : MT := .n x.a .lst (x.ds.map MT.d)
structure GpA where
  a : Addr
  calls : List CaA
def GpA.t (g : GpA) : MT := .n g.a .lst (g.calls.map CaA.t)
def GpA.cs (g : GpA) : List Call := g.calls.map (·.c)
structure MnA where
  a : Addr
  purse : Fr
  tries : Nat
  ca : Addr
  groups : List GpA
def mKeys : List L2.Key := [.inr "purse", .inr "tries", .inr "calls"]
def MnA.t (m : MnA) : MT := .n m.a (.dk mKeys) [.d (eFr m.purse), .d (dI m.tries), .n m.ca .lst (m.groups.map GpA.t)]
structure LnA where
  a : Addr
  ls : List Letter
def LnA.t (l : LnA) : MT := .n l.a .lst ((l.ls.map eLetter).map MT.d)
structure RwA where
  c : Nat
  g : Nat
  a : Addr
  next : Nat
  floor : Nat
  aa : Addr
  answers : List Ans
  wa : Addr
  waits : List Wait
def eW3 (w : Wait) : PyData := .tuple [.str w.cell, dI w.number, dI w.last]
def wKV (ws : List Wait) : List (L2.Key × PyData) := ws.map fun w => (.inl (w.n : Int), eW3 w)
def rKeys : List L2.Key := [.inr "next", .inr "floor", .inr "answers", .inr "waits"]
def RwA.t (r : RwA) : MT := .n r.a (.dk rKeys) [.d (dI r.next), .d (dI r.floor), .n r.aa .lst ((r.answers.map eAns).map MT.d), dN r.wa (wKV r.waits)]
def cKV (cs : List (Str × Nat)) : List (L2.Key × PyData) := cs.map fun p => (.inr p.1, dI p.2)
def RwA.pl (r : RwA) : Pair := (r.c, r.g)
def RwA.ky (r : RwA) : List L2.Key := [.inl (r.c : Int), .inl (r.g : Int)]
structure OwA where
  a : Addr
  clock : Nat
  fa : Addr
  folk : List MnA
  la : Addr
  lanes : List LnA
  ca : Addr
  cells : List (Str × Nat)
  ba : Addr
  book : List (Key × Ans)
  ra : Addr
  rows : List RwA
def oKeys : List L2.Key := [.inr "clock", .inr "folk", .inr "lanes", .inr "cells", .inr "book", .inr "rows"]
def OwA.t (o : OwA) : MT := .n o.a (.dk oKeys) [.d (dI o.clock), .n o.fa .lst (o.folk.map MnA.t), .n o.la .lst (o.lanes.map LnA.t), dN o.ca (cKV o.cells), .n o.ba .lst ((o.book.map eBook).map MT.d), .n o.ra (.dt (o.rows.map RwA.ky)) (o.rows.map RwA.t)]
abbrev OW (K : PySem.W.Frag) (o : OwA) : Wld := TWd K (.ref o.a) o.t
/-! ### what it stands for -/
structure SimM (m : MnA) (c : Clr) : Prop where
  pd : 0 < m.purse.2
  pq : m.purse.1 * c.purse.2 = c.purse.1 * m.purse.2
  tr : m.tries = c.tries
  gr : m.groups.map GpA.cs = c.groups.map (·.calls)
structure SimR (r : RwA) (q : Row) : Prop where
  c : r.c = q.c
  g : r.g = q.g
  next : r.next = q.next
  floor : r.floor = q.floor
  len : r.answers.length = r.next
  ans : r.answers.drop r.floor = q.answers
  waits : r.waits.Perm q.waiting
def findR (rs : List RwA) (c g : Nat) : Option RwA := rs.find? fun r => decide (r.pl = (c, g))
structure Sim (o : OwA) (st : State) : Prop where
  clock : o.clock = st.clock
  folk : Paired SimM o.folk st.callers
  lanes : o.lanes.map (·.ls) = st.lanes
  book : o.book = st.house.book
  cells : ∀ x, getA o.cells x = getA st.house.cells x
  clen : o.cells.length ≤ o.book.length
  rows : ∀ c g, (findR o.rows c g = none ∧ rowAt st.house.rows c g = none) ∨ ∃ r q, findR o.rows c g = some r ∧ rowAt st.house.rows c g = some q ∧ SimR r q
  rnd : (o.rows.map RwA.pl).Nodup
  rlen : o.rows.length = st.house.rows.length
theorem Paired.at_ {α β : Type} {F : α → β → Prop} : ∀ {as : List α} {bs : List β} {i : Nat} {b : β}, Paired F as bs → bs[i]? = some b → ∃ a, as[i]? = some a ∧ F a b
  | _, _, 0, _, .cons h _, e => by simp at e; subst e; exact ⟨_, rfl, h⟩
  | _, _, i + 1, b, .cons _ t, e => by
    obtain ⟨a, h1, h2⟩ := Paired.at_ (i := i) (b := b) t (by simpa using e)
    exact ⟨a, by simpa using h1, h2⟩
  | _, _, _, _, .nil, e => by simp at e
theorem Paired.set {α β : Type} {F : α → β → Prop} {a : α} {b : β} (q : F a b) : ∀ {as : List α} {bs : List β} (i : Nat), Paired F as bs → Paired F (as.set i a) (bs.set i b)
  | _, _, _, .nil => .nil
  | _, _, 0, .cons _ t => .cons q t
  | _, _, i + 1, .cons h t => .cons h (Paired.set q i t)
theorem SimM.grp {m : MnA} {c : Clr} (h : SimM m c) {g : Nat} {G : Grp} (e : c.groups[g]? = some G) : ∃ gp, m.groups[g]? = some gp ∧ gp.cs = G.calls := by
  have z : (m.groups.map GpA.cs)[g]? = some G.calls := by rw [h.gr, List.getElem?_map, e]; rfl
  rw [List.getElem?_map] at z
  cases q : m.groups[g]? with
  | none => rw [q] at z; cases z
  | some gp => rw [q] at z; exact ⟨gp, rfl, Option.some.inj z⟩
theorem GpA.at_ {gp : GpA} {n : Nat} {x : Call} (e : gp.cs[n]? = some x) : ∃ xa, gp.calls[n]? = some xa ∧ xa.c = x := by
  unfold GpA.cs at e
  rw [List.getElem?_map] at e
  cases q : gp.calls[n]? with
  | none => rw [q] at e; cases e
  | some xa => rw [q] at e; exact ⟨xa, rfl, Option.some.inj e⟩
theorem GpA.len {gp : GpA} : gp.calls.length = gp.cs.length := by unfold GpA.cs; rw [List.length_map]
/-! ### places in its tree -/
section
variable {w : OwA} {m : MnA} {gp : GpA} {x : CaA} {l : LnA} {r : RwA} {i j k : Nat}
theorem at_man (h : w.folk[i]? = some m) : MT.at_ [1, i] w.t = some m.t := by simp [MT.at_, OwA.t, h]
theorem at_cas (h : w.folk[i]? = some m) : MT.at_ [1, i, 2] w.t = some (.n m.ca .lst (m.groups.map GpA.t)) := by simp [MT.at_, OwA.t, h, MnA.t]
theorem at_gp (h : w.folk[i]? = some m) (h2 : m.groups[j]? = some gp) : MT.at_ [1, i, 2, j] w.t = some gp.t := by simp [MT.at_, OwA.t, h, MnA.t, h2]
theorem at_ca (h : w.folk[i]? = some m) (h2 : m.groups[j]? = some gp) (h3 : gp.calls[k]? = some x) : MT.at_ [1, i, 2, j, k] w.t = some x.t := by simp [MT.at_, OwA.t, h, MnA.t, h2, GpA.t, h3]
theorem at_ln (h : w.lanes[i]? = some l) : MT.at_ [2, i] w.t = some l.t := by simp [MT.at_, OwA.t, h]
theorem at_rw (h : w.rows[i]? = some r) : MT.at_ [5, i] w.t = some r.t := by simp [MT.at_, OwA.t, h]
theorem at_ra (h : w.rows[i]? = some r) : MT.at_ [5, i, 2] w.t = some (.n r.aa .lst ((r.answers.map eAns).map MT.d)) := by simp [MT.at_, OwA.t, h, RwA.t]
theorem at_rwt (h : w.rows[i]? = some r) : MT.at_ [5, i, 3] w.t = some (dN r.wa (wKV r.waits)) := by simp [MT.at_, OwA.t, h, RwA.t]
end
section
variable {X : Cx} {ρ : List Sl} {a b c e f o : Expr} {pos p p2 : Pos} {j0 : Nat} {w : OwA} {m : MnA} {gp : GpA} {x : CaA} {l : LnA} {r : RwA} {i j k : Nat}
theorem ev_ofolk (hu : X.A.units + 1 < cLine) (h : HF X ρ (OW X.K w).ok) (ho : EV X ρ o (.r (.ref w.a))) : EV X ρ (.Subscript o (.Constant (.str "folk") j0 p2) pos) (.r (.ref w.fa)) := EV.eq (ev_key (k := .inr "folk") (i := 1) hu ho ed_str (At.mk [] h) (by decide +kernel) rfl) rfl
theorem ev_olanes (hu : X.A.units + 1 < cLine) (h : HF X ρ (OW X.K w).ok) (ho : EV X ρ o (.r (.ref w.a))) : EV X ρ (.Subscript o (.Constant (.str "lanes") j0 p2) pos) (.r (.ref w.la)) := EV.eq (ev_key (k := .inr "lanes") (i := 2) hu ho ed_str (At.mk [] h) (by decide +kernel) rfl) rfl
theorem ev_ocells (hu : X.A.units + 1 < cLine) (h : HF X ρ (OW X.K w).ok) (ho : EV X ρ o (.r (.ref w.a))) : EV X ρ (.Subscript o (.Constant (.str "cells") j0 p2) pos) (.r (.ref w.ca)) := EV.eq (ev_key (k := .inr "cells") (i := 3) hu ho ed_str (At.mk [] h) (by decide +kernel) rfl) rfl
theorem ev_obook (hu : X.A.units + 1 < cLine) (h : HF X ρ (OW X.K w).ok) (ho : EV X ρ o (.r (.ref w.a))) : EV X ρ (.Subscript o (.Constant (.str "book") j0 p2) pos) (.r (.ref w.ba)) := EV.eq (ev_key (k := .inr "book") (i := 4) hu ho ed_str (At.mk [] h) (by decide +kernel) rfl) rfl
theorem ev_orows (hu : X.A.units + 1 < cLine) (h : HF X ρ (OW X.K w).ok) (ho : EV X ρ o (.r (.ref w.a))) : EV X ρ (.Subscript o (.Constant (.str "rows") j0 p2) pos) (.r (.ref w.ra)) := EV.eq (ev_key (k := .inr "rows") (i := 5) hu ho ed_str (At.mk [] h) (by decide +kernel) rfl) rfl
theorem ed_oclock (hu : X.A.units + 1 < cLine) (h : HF X ρ (OW X.K w).ok) (ho : EV X ρ o (.r (.ref w.a))) : ED X ρ (.Subscript o (.Constant (.str "clock") j0 p2) pos) (dI w.clock) := EV.eq (ev_key (k := .inr "clock") (i := 0) hu ho ed_str (At.mk [] h) (by decide +kernel) rfl) rfl
theorem ev_oman (h : HF X ρ (OW X.K w).ok) (hm : w.folk[i]? = some m) (ho : EV X ρ o (.r (.ref w.fa))) (hi : ED X ρ e (dI i)) (hs : PlainIx e := by exact fun _ _ => rfl) : EV X ρ (.Subscript o e pos) (.r (.ref m.a)) := EV.eq (ev_idx (n := i) (x := m.t) ho hi (At.mk (cs := w.folk.map MnA.t) [1] h) (by rw [List.getElem?_map, hm]; rfl) hs) rfl
theorem ed_mpurse (hu : X.A.units + 1 < cLine) (h : HF X ρ (OW X.K w).ok) (hm : w.folk[i]? = some m) (ho : EV X ρ o (.r (.ref m.a))) : ED X ρ (.Subscript o (.Constant (.str "purse") j0 p2) pos) (eFr m.purse) := EV.eq (ev_key (k := .inr "purse") (i := 0) (ks := mKeys) hu ho ed_str (At.mk [1, i] h (at_man hm)) (by decide +kernel) rfl) rfl
theorem ed_mtries (hu : X.A.units + 1 < cLine) (h : HF X ρ (OW X.K w).ok) (hm : w.folk[i]? = some m) (ho : EV X ρ o (.r (.ref m.a))) : ED X ρ (.Subscript o (.Constant (.str "tries") j0 p2) pos) (dI m.tries) := EV.eq (ev_key (k := .inr "tries") (i := 1) (ks := mKeys) hu ho ed_str (At.mk [1, i] h (at_man hm)) (by decide +kernel) rfl) rfl
theorem ev_mcalls (hu : X.A.units + 1 < cLine) (h : HF X ρ (OW X.K w).ok) (hm : w.folk[i]? = some m) (ho : EV X ρ o (.r (.ref m.a))) : EV X ρ (.Subscript o (.Constant (.str "calls") j0 p2) pos) (.r (.ref m.ca)) := EV.eq (ev_key (k := .inr "calls") (i := 2) (ks := mKeys) hu ho ed_str (At.mk [1, i] h (at_man hm)) (by decide +kernel) rfl) rfl
theorem ev_ogp (h : HF X ρ (OW X.K w).ok) (hm : w.folk[i]? = some m) (hg : m.groups[j]? = some gp) (ho : EV X ρ o (.r (.ref m.ca))) (hi : ED X ρ e (dI j)) (hs : PlainIx e := by exact fun _ _ => rfl) : EV X ρ (.Subscript o e pos) (.r (.ref gp.a)) := EV.eq (ev_idx (n := j) (x := gp.t) ho hi (At.mk [1, i, 2] h (at_cas hm)) (by rw [List.getElem?_map, hg]; rfl) hs) rfl
theorem ev_oca (h : HF X ρ (OW X.K w).ok) (hm : w.folk[i]? = some m) (hg : m.groups[j]? = some gp) (hc : gp.calls[k]? = some x) (ho : EV X ρ o (.r (.ref gp.a))) (hi : ED X ρ e (dI k)) (hs : PlainIx e := by exact fun _ _ => rfl) : EV X ρ (.Subscript o e pos) (.r (.ref x.a)) := EV.eq (ev_idx (n := k) (x := x.t) ho hi (At.mk [1, i, 2, j] h (at_gp hm hg)) (by rw [List.getElem?_map, hc]; rfl) hs) rfl
theorem ed_oca {n : Nat} {d : PyData} (h : HF X ρ (OW X.K w).ok) (hm : w.folk[i]? = some m) (hg : m.groups[j]? = some gp) (hc : gp.calls[k]? = some x) (ho : EV X ρ o (.r (.ref x.a))) (hi : ED X ρ e (dI n)) (hd : x.ds[n]? = some d) (hs : PlainIx e := by exact fun _ _ => rfl) : ED X ρ (.Subscript o e pos) d := EV.eq (ev_idx (n := n) (x := .d d) ho hi (At.mk [1, i, 2, j, k] h (at_ca hm hg hc)) (by rw [List.getElem?_map, hd]; rfl) hs) rfl
theorem ed_lengp (hl : X.mg "len" = none) (h : HF X ρ (OW X.K w).ok) (hm : w.folk[i]? = some m) (hg : m.groups[j]? = some gp) (ho : EV X ρ a (.r (.ref gp.a))) (hgl : Gl X "len" := by rfl) (he : starEach [a] X.env = (false, eval a X.env) :: starEach [] X.env := by rfl) (hpl : (backTo pos (starEach [] X.env)).any (·.1) = false := by rfl) : ED X ρ (.Call (.Name "len" p) [a] [] pos) (dI gp.cs.length) :=
  ed_is (ed_lenAt (cs := gp.calls.map CaA.t) hl ho (At.mk [1, i, 2, j] h (at_gp hm hg)) hgl he hpl) (by rw [List.length_map, GpA.len])
theorem ev_oln (h : HF X ρ (OW X.K w).ok) (hm : w.lanes[i]? = some l) (ho : EV X ρ o (.r (.ref w.la))) (hi : ED X ρ e (dI i)) (hs : PlainIx e := by exact fun _ _ => rfl) : EV X ρ (.Subscript o e pos) (.r (.ref l.a)) := EV.eq (ev_idx (n := i) (x := l.t) ho hi (At.mk (cs := w.lanes.map LnA.t) [2] h) (by rw [List.getElem?_map, hm]; rfl) hs) rfl
theorem at_lnA (h : HF X ρ (OW X.K w).ok) (hm : w.lanes[i]? = some l) : At X ρ l.a .lst ((l.ls.map eLetter).map MT.d) := At.mk [2, i] h (at_ln hm)
end
/-! ### purses -/
theorem sim_less {a b : Fr} (h : a.1 * b.2 = b.1 * a.2) (ha : 0 < a.2) (hb : 0 < b.2) : fless b whole = decide (a.1 < a.2) := by
  unfold fless whole
  simp only [Nat.mul_one, Nat.one_mul]
  refine decide_eq_decide.mpr ⟨fun q => ?_, fun q => ?_⟩
  · refine Nat.lt_of_not_le fun z => ?_
    have h1 : b.1 * a.2 < b.2 * a.2 := Nat.mul_lt_mul_of_pos_right q ha
    have h2 : a.2 * b.2 ≤ a.1 * b.2 := Nat.mul_le_mul_right _ z
    rw [Nat.mul_comm b.2 a.2] at h1
    omega
  · refine Nat.lt_of_not_le fun z => ?_
    have h1 : a.1 * b.2 < a.2 * b.2 := Nat.mul_lt_mul_of_pos_right q hb
    have h2 : b.2 * a.2 ≤ b.1 * a.2 := Nat.mul_le_mul_right _ z
    rw [Nat.mul_comm b.2 a.2] at h2
    omega
section
variable {P : Program} {w : World} {K : PySem.W.Frag} {mg : Str → Option Value} {base : Heap}
/-! ### heard -/
theorem sc_lheard : FnScope ["_law_calls", "_law_found"] ["_law_calls"] (defScope (top 79)) := ⟨rfl, rfl, rfl, by decide +kernel, rfl, by decide +kernel, by decide +kernel⟩
def R_lheard (K : PySem.W.Frag) (xs : List Sl) (d : PyData) : Prop := ∃ gp : GpA, xs = [.b (.ref gp.a) (TWd K (.ref gp.a) gp.t)] ∧ d = dI (heardOf gp.cs)
theorem heardOf_le : ∀ cs : List Call, heardOf cs ≤ cs.length
  | [] => Nat.le_refl _
  | c :: r => by
    unfold heardOf
    split
    · have := heardOf_le r; simp; omega
    · exact Nat.zero_le _
theorem heardOf_at : ∀ (cs : List Call) (n : Nat) (x : Call), n ≤ heardOf cs → cs[n]? = some x → (n < heardOf cs ↔ x.ans.isSome = true)
  | [], n, x, _, e => by simp at e
  | c :: r, 0, x, h, e => by
    simp at e; subst e
    unfold heardOf
    split <;> rename_i q <;> simp [q]
  | c :: r, n + 1, x, h, e => by
    unfold heardOf at h ⊢
    split at h
    · rename_i q
      have := heardOf_at r n x (by omega) (by simpa using e)
      rw [← this]
      omega
    · omega
theorem isNo_oans (a : Option Ans) : isNo (eOAns a) = a.isNone := by
  cases a with
  | none => rfl
  | some a => cases a <;> rfl
theorem c_lheard (T : Bl mg) (O : Own K mg "_law_heard" (defD "_law_heard" (top 79)) []) : Cal P w K mg base 1 "_law_heard" (ASp K (R_lheard K)) [] := by
  refine cal_args O sc_lheard ?_ (by decide) (fun _ _ _ _ _ _ us hl => match us, hl with | [_], _ => rfl) ?_
  · rintro xs d ⟨gp, rfl, _⟩
    exact ⟨rfl, fun y hy => by rw [List.mem_singleton.mp hy]; exact trivial⟩
  · rintro f cdv A outer s H E hr xs d ⟨gp, rfl, rfl⟩
    have nd := sc_lheard.nd
    refine sjs_set 1 (y := .d (dI 0)) ed_k ?_ nd
    refine SJs.to [.b (.ref gp.a) (TWd K (.ref gp.a) gp.t), .d (dI 0)] ?_
    refine sjs_cons (sj_while (fun m ρ => ∃ n, m = gp.cs.length - n ∧ n ≤ heardOf gp.cs ∧ ρ = [.b (.ref gp.a) (TWd K (.ref gp.a) gp.t), .d (dI n)]) (N := fun ρ => ρ = [.b (.ref gp.a) (TWd K (.ref gp.a) gp.t), .d (dI (heardOf gp.cs))]) (m0 := gp.cs.length) ⟨0, rfl, Nat.zero_le _, rfl⟩ ?_ PassesOwn.never) ?_
    · rintro m ρ ⟨n, rfl, hn, rfl⟩
      have hle := heardOf_le gp.cs
      refine ⟨decide (n < heardOf gp.cs), TW.td ?_, fun h => ?_, fun h => ?_⟩
      · by_cases hl : n < gp.cs.length
        · obtain ⟨xa, hxa, hxc⟩ := GpA.at_ (gp := gp) (n := n) (List.getElem?_eq_getElem hl)
          have key : ∀ b : Bool, b = decide (n < heardOf gp.cs) → (true && b) = decide (n < heardOf gp.cs) := fun b h => by rw [Bool.true_and]; exact h
          have e0 : (!(isNo (eOAns xa.c.ans))) = decide (n < heardOf gp.cs) := by
            rw [isNo_oans]
            have z := heardOf_at gp.cs n _ hn (List.getElem?_eq_getElem hl)
            rw [← hxc] at z
            cases hA : xa.c.ans with
            | none => rw [hA] at z; symm; simpa using z
            | some a => rw [hA] at z; symm; simpa using z
          rw [← key _ e0]
          refine tw_and (td_is (td_ltn (ed_var 1) ?_) (decide_eq_true hl)) fun _ => tw_and1 (td_notN (EV.eq (ev_idx (t := xa.a) (cs := xa.ds.map MT.d) (n := 3) (EV.eq (ev_idx (t := gp.a) (cs := gp.calls.map CaA.t) (n := n) (x := xa.t) (ev_b 0) (ed_var 1) (At.mk [] (hf_b 0)) (by rw [List.getElem?_map, hxa]; rfl)) rfl) ed_k (At.mk [n] (hf_b 0) (by simp [MT.at_, GpA.t, hxa, CaA.t])) rfl) rfl))
          exact ed_is (ed_lenAt (t := gp.a) (cs := gp.calls.map CaA.t) T.len (ev_b 0) (At.mk [] (hf_b 0))) (by rw [List.length_map, GpA.len])
        · have e0 : (false && true) = decide (n < heardOf gp.cs) := by symm; rw [Bool.false_and]; exact decide_eq_false (by omega)
          rw [← e0]
          refine tw_and (td_is (td_ltn (ed_var 1) ?_) (decide_eq_false hl)) fun z => by cases z
          exact ed_is (ed_lenAt (t := gp.a) (cs := gp.calls.map CaA.t) T.len (ev_b 0) (At.mk [] (hf_b 0))) (by rw [List.length_map, GpA.len])
      · have h := of_decide_eq_true h
        refine sjs_set 1 (y := .d (dI (n + 1))) (ed_addn (ed_var 1) ed_k) (sjs_nil ⟨gp.cs.length - (n + 1), by omega, n + 1, rfl, by omega, rfl⟩) nd
      · have h := of_decide_eq_false h
        have : n = heardOf gp.cs := by omega
        subst this
        rfl
    · rintro ρ rfl
      exact sjs_ret (ed_var 1) rfl
end
end TC
set_option Elab.async false
set_option linter.all false
set_option maxRecDepth 100000
set_option maxHeartbeats 4000000
/-! The law's own machine: what is due. -/
namespace TC
open PySem L2
theorem hf_sub {X : Cx} {ρ : List Sl} {v : V} {t : MT} {a : Addr} {k : Knd} {cs : List MT} (p : List Nat) (h : HF X ρ (TWd X.K v t).ok) (hat : MT.at_ p t = some (.n a k cs)) : HF X ρ (TWd X.K (.ref a) (.n a k cs)).ok := fun σ H ev => by
  obtain ⟨r, n⟩ := h σ H ev
  obtain ⟨u, ru⟩ := r.sub hat
  obtain ⟨rfl, _⟩ := ru.un
  exact ⟨ru, at_nd hat n⟩
section
variable {P : Program} {w : World} {K : PySem.W.Frag} {mg : Str → Option Value} {base : Heap}
theorem sc_ldue : FnScope ["_law_own", "_law_deal_here", "_law_who", "_law_mine", "_law_groups", "_law_g", "_law_calls", "_law_n", "_law_call"] ["_law_own", "_law_deal_here", "_law_who"] (defScope (top 80)) := ⟨rfl, rfl, rfl, by decide +kernel, rfl, by decide +kernel, by decide +kernel⟩
def R_ldue (K : PySem.W.Frag) (xs : List Sl) (d : PyData) : Prop := ∃ (S : Setting) (st : State) (o : OwA) (c : Nat), xs = [.b (.ref o.a) (OW K o), .d (eSetting S), .d (dI c)] ∧ WfS S ∧ Sim o st ∧ Wf S st ∧ c < S.callers.length ∧ d = eDue (dueS S st c)
theorem c_ldue (T : Bl mg) (O : Own K mg "_law_due" (defD "_law_due" (top 80)) []) (ch : Cal P w K mg base 1 "_law_heard" (ASp K (R_lheard K)) []) : Cal P w K mg base 2 "_law_due" (ASp K (R_ldue K)) [] := by
  refine cal_args O sc_ldue ?_ (by decide) (fun _ _ _ _ _ _ us hl => match us, hl with | [_, _, _], _ => rfl) ?_
  · rintro xs d ⟨S, st, o, c, rfl, _⟩
    refine ⟨rfl, fun y hy => ?_⟩
    simp only [List.mem_cons, List.not_mem_nil, or_false] at hy
    rcases hy with rfl | rfl | rfl <;> exact trivial
  · rintro f cdv A outer s H E hr xs d ⟨S, st, o, c, rfl, ws, sim, wf, hc, rfl⟩
    have nd := sc_ldue.nd
    have hu := roomU hr
    have hu1 : (A.deeper (PyProof.Rows.envOfC "_law_due" (defScope (top 80)) s.heap.objs.size f cdv)).units + 1 < cLine := by omega
    obtain ⟨cs, hcs⟩ : ∃ cs, S.callers[c]? = some cs := ⟨_, List.getElem?_eq_getElem hc⟩
    obtain ⟨clr, hclr, hgl⟩ := wf.shp.clr hcs
    obtain ⟨m, hm, sm⟩ := Paired.at_ sim.folk hclr
    have hng := ws.ng cs (List.mem_of_getElem? hcs)
    have eF : firstDue S st c = firstFrom S c 0 clr.groups := by unfold firstDue; rw [hclr]; rfl
    have eG : furDue S st c = furFrom S st.clock c 0 clr.groups := by unfold furDue; rw [hclr]; rfl
    have eT : triesOf st c = m.tries := by unfold triesOf; rw [hclr]; exact sm.tr.symm
    have eP : fless (purseOf st c) whole = decide (m.purse.1 < m.purse.2) := by
      unfold purseOf; rw [hclr]
      exact sim_less sm.pq sm.pd (wf.purse clr (List.mem_of_getElem? hclr)).1
    refine sjs_par 3 4 (u := .r (.ref m.a)) (v := .d (.tuple (cs.groups.map eGrpS))) (ev_oman (hf_b 0) hm (ev_ofolk hu1 (hf_b 0) (ev_b 0)) (ed_var 2)) (ed_ic (ed_xm eClrS (ed_ic (ed_var 1) rfl) (ed_var 2) hcs) rfl) ?_ rfl nd
    refine SJs.to [.b (.ref o.a) (OW K o), .d (eSetting S), .d (dI c), .r (.ref m.a), .d (.tuple (cs.groups.map eGrpS)), .no, .no, .no, .no] ?_
    refine sjs_cons (sj_for (it_range (n := cs.groups.length) T.range (ed_lenM eGrpS T.len (ed_var 4)) (by omega)) (N := fun ρ => firstFrom S c 0 clr.groups = none ∧ ∃ x y, ρ = [.b (.ref o.a) (OW K o), .d (eSetting S), .d (dI c), .r (.ref m.a), .d (.tuple (cs.groups.map eGrpS)), x, y, .no, .no])
      (fun i ρ => firstFrom S c i (clr.groups.drop i) = firstFrom S c 0 clr.groups ∧ ∃ x y, ρ = [.b (.ref o.a) (OW K o), .d (eSetting S), .d (dI c), .r (.ref m.a), .d (.tuple (cs.groups.map eGrpS)), x, y, .no, .no]) ⟨rfl, _, _, rfl⟩ ?_ ?_ rfl PassesOwn.never) ?_
    · rintro i d ρ hd ⟨hI, x, y, rfl⟩
      obtain ⟨hi, rfl⟩ := range_at hd
      obtain ⟨l, hl⟩ : ∃ l, cs.groups[i]? = some l := ⟨_, List.getElem?_eq_getElem hi⟩
      obtain ⟨G, hG⟩ : ∃ G, clr.groups[i]? = some G := ⟨_, List.getElem?_eq_getElem (by omega)⟩
      obtain ⟨gp, hgp, hgc⟩ := sm.grp hG
      have ez : lenS S c i = l.length := by unfold lenS grpS; rw [hcs]; show ((cs.groups[i]?).getD []).length = _; rw [hl]; rfl
      have eh : G.heard = heardOf gp.cs := by rw [hgc]; exact (wf.grp c i G (grp_mk hclr hG)).hd
      refine ⟨[(5, dI i)], gd_name 5 nd, ?_⟩
      rw [drop_at hG] at hI
      refine sjs_set 6 (y := .r (.ref gp.a)) (ev_ogp (hf_b 0) hm hgp (ev_mcalls hu1 (hf_b 0) hm (ev_raw 3)) (ed_var 5)) ?_ nd
      refine SJs.to [.b (.ref o.a) (OW K o), .d (eSetting S), .d (dI c), .r (.ref m.a), .d (.tuple (cs.groups.map eGrpS)), .d (dI i), .r (.ref gp.a), .no, .no] ?_
      refine sjs_one (sj_if (k := decide (G.calls.length < min (lenS S c i) (G.heard + S.window))) (td_is (td_ltn (j := min (lenS S c i) (G.heard + S.window)) (ed_lengp T.len (hf_b 0) hm hgp (ev_raw 6)) (ed_is (ed_min T.min rfl (i := ((lenS S c i : Nat) : Int)) (j := ((G.heard + S.window : Nat) : Int)) (ed_is (ed_lenM eCallS T.len (ed_xm eGrpS (ed_var 4) (ed_var 5) hl)) (by rw [ez]; rfl)) (ed_addn (ed_callB ch hr (ab_cons (eb_b (ev_raw 6) (hf_sub [1, c, 2, i] (hf_b 0) (at_gp hm hgp))) ab_nil) (fun xs hx => ?_)) (ed_ic (ed_var 1) rfl))) (by rw [minN]; rfl))) (by rw [hgc])) (fun h => ?_) fun h => ?_)
      · obtain ⟨y, ys, rfl, rfl, rfl⟩ := hx
        exact ⟨gp, rfl, by rw [eh]⟩
      · have h := of_decide_eq_true h
        refine sjs_ret (ed_tup (ad_consd ed_str (ad_consd (ed_tup (ad_consd (ed_var 2) (ad_consd (ed_var 5) (ad_consd (ed_lengp T.len (hf_b 0) hm hgp (ev_raw 6)) ad_nild)))) (ad_consd (ed_modn (ed_mtries hu1 (hf_b 0) hm (ev_raw 3)) ed_k (by decide)) ad_nild)))) ?_
        have e0 : firstDue S st c = some ⟨c, i, G.calls.length⟩ := by
          rw [eF, ← hI]
          simp only [firstFrom, if_pos h]
        simp only [dueS, e0, eT, hgc]
        rfl
      · have h := of_decide_eq_false h
        refine sjs_nil ⟨?_, _, _, rfl⟩
        rw [← hI]
        simp only [firstFrom, if_neg h]
    · rintro ρ ⟨hI, x, y, rfl⟩
      refine ⟨?_, x, y, rfl⟩
      rw [← hI, rangeD_len, List.drop_of_length_le (by omega)]
      rfl
    · rintro ρ ⟨h0, x, y, rfl⟩
      refine sjs_cons (M := fun ρ => dueS S st c = .nothing) (sj_if (k := decide (m.purse.2 ≤ m.purse.1)) (td_gen (ed_ic (ed_mpurse hu1 (hf_b 0) hm (ev_raw 3)) rfl) (ed_ic (ed_mpurse hu1 (hf_b 0) hm (ev_raw 3)) rfl)) (fun h => ?_) fun h => ?_) fun ρ h => ?_
      · have hle := of_decide_eq_true h
        have e1 : fless (purseOf st c) whole = false := by rw [eP]; exact decide_eq_false (by omega)
        refine sjs_one (sj_for (it_range (n := cs.groups.length) T.range (ed_lenM eGrpS T.len (ed_var 4)) (by omega)) 
          (fun i ρ => furFrom S st.clock c i (clr.groups.drop i) = furFrom S st.clock c 0 clr.groups ∧ ∃ x y z t, ρ = [.b (.ref o.a) (OW K o), .d (eSetting S), .d (dI c), .r (.ref m.a), .d (.tuple (cs.groups.map eGrpS)), x, y, z, t]) ⟨rfl, _, _, _, _, rfl⟩ ?_ ?_ rfl PassesOwn.never)
        · rintro i d ρ hd ⟨hI, x, y, z, t, rfl⟩
          obtain ⟨hi, rfl⟩ := range_at hd
          obtain ⟨G, hG⟩ : ∃ G, clr.groups[i]? = some G := ⟨_, List.getElem?_eq_getElem (by omega)⟩
          obtain ⟨gp, hgp, hgc⟩ := sm.grp hG
          have gok := wf.grp c i G (grp_mk hclr hG)
          have glen : G.calls.length ≤ 4 := by
            have h1 := gok.len
            obtain ⟨l, hl⟩ : ∃ l, cs.groups[i]? = some l := ⟨_, List.getElem?_eq_getElem hi⟩
            have ez : lenS S c i = l.length := by unfold lenS grpS; rw [hcs]; show ((cs.groups[i]?).getD []).length = _; rw [hl]; rfl
            have h2 := ws.nn cs (List.mem_of_getElem? hcs) l (List.mem_of_getElem? hl)
            omega
          refine ⟨[(5, dI i)], gd_name 5 nd, ?_⟩
          rw [drop_at hG] at hI
          refine SJs.to [.b (.ref o.a) (OW K o), .d (eSetting S), .d (dI c), .r (.ref m.a), .d (.tuple (cs.groups.map eGrpS)), .d (dI i), y, z, t] ?_
          refine sjs_one (sj_for (it_range (n := G.calls.length) T.range (ed_is (ed_lengp T.len (hf_b 0) hm hgp (ev_ogp (hf_b 0) hm hgp (ev_mcalls hu1 (hf_b 0) hm (ev_raw 3)) (ed_var 5))) (by rw [hgc]; rfl)) (by omega)) (fun j ρ => furCalls S st.clock c i j (G.calls.drop j) = furCalls S st.clock c i 0 G.calls ∧ ∃ z t, ρ = [.b (.ref o.a) (OW K o), .d (eSetting S), .d (dI c), .r (.ref m.a), .d (.tuple (cs.groups.map eGrpS)), .d (dI i), y, z, t]) ⟨rfl, _, _, rfl⟩ ?_ ?_ rfl PassesOwn.never)
          · rintro j d ρ hd ⟨hJ, z, t, rfl⟩
            obtain ⟨hj, rfl⟩ := range_at hd
            obtain ⟨k, hk⟩ : ∃ k, G.calls[j]? = some k := ⟨_, List.getElem?_eq_getElem hj⟩
            obtain ⟨xa, hxa, hxc⟩ := GpA.at_ (gp := gp) (n := j) (by rw [hgc]; exact hk)
            rw [drop_at hk] at hJ
            refine ⟨[(7, dI j)], gd_name 7 nd, ?_⟩
            refine sjs_set 8 (y := .r (.ref xa.a)) (ev_oca (hf_b 0) hm hgp hxa (ev_ogp (hf_b 0) hm hgp (ev_mcalls hu1 (hf_b 0) hm (ev_raw 3)) (ed_var 5)) (ed_var 7)) ?_ nd
            refine SJs.to [.b (.ref o.a) (OW K o), .d (eSetting S), .d (dI c), .r (.ref m.a), .d (.tuple (cs.groups.map eGrpS)), .d (dI i), y, .d (dI j), .r (.ref xa.a)] ?_
            have hck := sim.clock
            refine sjs_one (sj_if (k := k.ans.isNone && decide (k.last + S.patience ≤ st.clock)) (TW.td (tw_and (td_is (td_isN (ed_oca (n := 3) (hf_b 0) hm hgp hxa (ev_raw 8) ed_k rfl)) (by rw [isNo_oans, hxc])) fun _ => tw_and1 (td_is (td_cmp op_ge (ed_sub (ed_oclock hu1 (hf_b 0) (ev_b 0)) (ed_oca (n := 1) (hf_b 0) hm hgp hxa (ev_raw 8) ed_k rfl)) (ed_ic (ed_var 1) rfl) rI0_ok (nomark _)) (decide_eq_decide.mpr (by rw [hxc, hck]; omega))))) (fun h => ?_) fun h => ?_)
            · obtain ⟨h1, h2⟩ := Bool.and_eq_true_iff.mp h
              have h2 := of_decide_eq_true h2
              have hl1 : k.lane ≤ 1 := gok.lane k (List.mem_of_getElem? hk)
              refine sjs_ret (ed_tup (ad_consd ed_str (ad_consd (ed_tup (ad_consd (ed_var 2) (ad_consd (ed_var 5) (ad_consd (ed_var 7) ad_nild)))) (ad_consd (ed_subn ed_k (ed_oca (n := 2) (hf_b 0) hm hgp hxa (ev_raw 8) ed_k rfl) (by rw [hxc]; exact hl1)) ad_nild)))) ?_
              have e0 : k.ans = none := by simpa using h1
              simp only [furCalls, e0, if_pos h2] at hJ
              have e2 : furDue S st c = some (⟨c, i, j⟩, k.lane) := by
                rw [eG, ← hI]
                simp only [furFrom, ← hJ]
              have e3 : firstDue S st c = none := by rw [eF]; exact h0
              simp only [dueS, e3, e1, e2, hxc]
              rfl
            · refine sjs_nil ⟨?_, _, _, rfl⟩
              rw [← hJ]
              cases e0 : k.ans with
              | some a => simp only [furCalls, e0]
              | none =>
                rw [e0] at h
                have h2 : ¬ k.last + S.patience ≤ st.clock := by simpa using h
                simp only [furCalls, e0, if_neg h2]
          · rintro ρ ⟨hJ, z, t, rfl⟩
            refine ⟨?_, _, _, _, _, rfl⟩
            rw [rangeD_len, List.drop_length] at hJ
            rw [← hI]
            simp only [furFrom, ← hJ, furCalls]
        · rintro ρ ⟨hI, x, y, z, t, rfl⟩
          rw [rangeD_len, List.drop_of_length_le (by omega)] at hI
          have e3 : firstDue S st c = none := by rw [eF]; exact h0
          have e2 : furDue S st c = none := by rw [eG, ← hI]; rfl
          simp only [dueS, e3, e1, e2]
          rfl
      · have hlt := of_decide_eq_false h
        have e1 : fless (purseOf st c) whole = true := by rw [eP]; exact decide_eq_true (by omega)
        refine sjs_nil ?_
        have e3 : firstDue S st c = none := by rw [eF]; exact h0
        simp only [dueS, e3, e1]
        rfl
      · rw [h]
        exact sjs_ret (ed_tup (ad_consd ed_str ad_nild)) rfl
end
end TC
set_option linter.all false
/-! Plain: fractions; what a go does. -/
namespace TC
/-! ### fractions by their worth -/
def Feq (a b : Fr) : Prop := a.1 * b.2 = b.1 * a.2
theorem Feq.rf (a : Fr) : Feq a a := rfl
theorem Feq.sy {a b : Fr} (h : Feq a b) : Feq b a := Eq.symm h
theorem Feq.tr {a b c : Fr} (hb : 0 < b.2) (h : Feq a b) (g : Feq b c) : Feq a c := by
  unfold Feq at *
  have e : (a.1 * c.2) * b.2 = (c.1 * a.2) * b.2 := by
    have e1 : (a.1 * c.2) * b.2 = (a.1 * b.2) * c.2 := by rw [Nat.mul_right_comm]
    have e2 : (c.1 * a.2) * b.2 = (c.1 * b.2) * a.2 := by rw [Nat.mul_right_comm]
    rw [e1, e2, h, ← g, Nat.mul_right_comm]
  exact Nat.eq_of_mul_eq_mul_right hb e
theorem fmk_feq {n m : Nat} (hm : 0 < m) : Feq (n, m) (fmk n m) := by
  unfold Feq fmk
  show n * (m / Nat.gcd n m) = n / Nat.gcd n m * m
  obtain ⟨a, ha⟩ := Nat.gcd_dvd_left n m
  obtain ⟨b, hb⟩ := Nat.gcd_dvd_right n m
  have hg : 0 < Nat.gcd n m := Nat.gcd_pos_of_pos_right n hm
  have e1 : n / Nat.gcd n m = a := by rw [Nat.div_eq_iff_eq_mul_right hg (Nat.gcd_dvd_left n m)]; exact ha
  have e2 : m / Nat.gcd n m = b := by rw [Nat.div_eq_iff_eq_mul_right hg (Nat.gcd_dvd_right n m)]; exact hb
  rw [e1, e2]
  have : n * b = a * m := by
    calc n * b = (Nat.gcd n m * a) * b := by rw [← ha]
      _ = a * (Nat.gcd n m * b) := by rw [Nat.mul_comm (Nat.gcd n m) a, Nat.mul_assoc]
      _ = a * m := by rw [← hb]
  exact this
theorem fmk_pos {n m : Nat} (hm : 0 < m) : 0 < (fmk n m).2 := by
  unfold fmk
  exact Nat.div_pos (Nat.gcd_le_right n hm) (Nat.gcd_pos_of_pos_right n hm)
/-- under what divides d, over what the worth times d is -/
theorem fmk_dvd {n m d x : Nat} (hm : 0 < m) (h : n * d = x * m) : (fmk n m).2 ∣ d := by
  unfold fmk
  show m / Nat.gcd n m ∣ d
  have hg : 0 < Nat.gcd n m := Nat.gcd_pos_of_pos_right n hm
  have co : Nat.Coprime (n / Nat.gcd n m) (m / Nat.gcd n m) := Nat.coprime_div_gcd_div_gcd hg
  have e : (n / Nat.gcd n m) * d = x * (m / Nat.gcd n m) := by
    obtain ⟨a, ha⟩ := Nat.gcd_dvd_left n m
    obtain ⟨b, hb⟩ := Nat.gcd_dvd_right n m
    have e1 : n / Nat.gcd n m = a := by rw [Nat.div_eq_iff_eq_mul_right hg (Nat.gcd_dvd_left n m)]; exact ha
    have e2 : m / Nat.gcd n m = b := by rw [Nat.div_eq_iff_eq_mul_right hg (Nat.gcd_dvd_right n m)]; exact hb
    rw [e1, e2]
    refine Nat.eq_of_mul_eq_mul_left hg ?_
    calc Nat.gcd n m * (a * d) = (Nat.gcd n m * a) * d := by rw [Nat.mul_assoc]
      _ = n * d := by rw [← ha]
      _ = x * m := h
      _ = x * (Nat.gcd n m * b) := by rw [← hb]
      _ = Nat.gcd n m * (x * b) := by rw [Nat.mul_left_comm]
  exact co.symm.dvd_of_dvd_mul_left ⟨x, by rw [e, Nat.mul_comm]⟩
theorem feq_plus {a b r : Fr} (h : Feq a b) (hb : 0 < b.2) (hr : 0 < r.2) : Feq (a.1 * r.2 + r.1 * a.2, a.2 * r.2) (fplus b r) := by
  have hbr : 0 < b.2 * r.2 := Nat.mul_pos hb hr
  refine Feq.tr (b := (b.1 * r.2 + r.1 * b.2, b.2 * r.2)) hbr ?_ (fmk_feq hbr)
  unfold Feq at *
  show (a.1 * r.2 + r.1 * a.2) * (b.2 * r.2) = (b.1 * r.2 + r.1 * b.2) * (a.2 * r.2)
  rw [Nat.add_mul, Nat.add_mul]
  have e1 : a.1 * r.2 * (b.2 * r.2) = b.1 * r.2 * (a.2 * r.2) := by
    calc a.1 * r.2 * (b.2 * r.2) = (a.1 * b.2) * (r.2 * r.2) := by ac_rfl
      _ = (b.1 * a.2) * (r.2 * r.2) := by rw [h]
      _ = b.1 * r.2 * (a.2 * r.2) := by ac_rfl
  have e2 : r.1 * a.2 * (b.2 * r.2) = r.1 * b.2 * (a.2 * r.2) := by ac_rfl
  rw [e1, e2]
theorem feq_less {a b t : Fr} (h : Feq a b) (ha : 0 < a.2) (hb : 0 < b.2) : fless b t = decide (a.1 * t.2 < t.1 * a.2) := by
  unfold fless
  unfold Feq at h
  refine decide_eq_decide.mpr ⟨fun q => ?_, fun q => ?_⟩
  · have q2 : b.1 * t.2 * a.2 < t.1 * b.2 * a.2 := Nat.mul_lt_mul_of_pos_right q ha
    have e : b.1 * t.2 * a.2 = a.1 * t.2 * b.2 := by
      calc b.1 * t.2 * a.2 = (b.1 * a.2) * t.2 := by ac_rfl
        _ = (a.1 * b.2) * t.2 := by rw [h]
        _ = a.1 * t.2 * b.2 := by ac_rfl
    have e2 : t.1 * b.2 * a.2 = t.1 * a.2 * b.2 := by ac_rfl
    rw [e, e2] at q2
    exact Nat.lt_of_mul_lt_mul_right q2
  · have q2 : a.1 * t.2 * b.2 < t.1 * a.2 * b.2 := Nat.mul_lt_mul_of_pos_right q hb
    have e : a.1 * t.2 * b.2 = b.1 * t.2 * a.2 := by
      calc a.1 * t.2 * b.2 = (a.1 * b.2) * t.2 := by ac_rfl
        _ = (b.1 * a.2) * t.2 := by rw [h]
        _ = b.1 * t.2 * a.2 := by ac_rfl
    have e2 : t.1 * a.2 * b.2 = t.1 * b.2 * a.2 := by ac_rfl
    rw [e, e2] at q2
    exact Nat.lt_of_mul_lt_mul_right q2
theorem feq_minus {a b : Fr} (h : Feq a b) (hb : 0 < b.2) : Feq (a.1 - a.2, a.2) (fminus b whole) := by
  refine Feq.tr (b := (b.1 - b.2, b.2)) hb ?_ ?_
  · unfold Feq at *
    show (a.1 - a.2) * b.2 = (b.1 - b.2) * a.2
    rw [Nat.sub_mul, Nat.sub_mul, h, Nat.mul_comm a.2 b.2]
  · have := fmk_feq (n := b.1 - b.2) (m := b.2) hb
    unfold fminus whole
    simpa using this
/-! ### a go -/
structure Goes (S : Setting) (st : State) (c : Nat) (k : Key) (l : Nat) (fst : Bool) (cs : ClrS) (clr : Clr) (G : Grp) (x : CallS) (pu : Fr) (cl : List Call) (y : Call) : Prop where
  hcs : S.callers[c]? = some cs
  hclr : st.callers[c]? = some clr
  hG : clr.groups[k.g]? = some G
  kc : k.c = c
  l2 : l < 2
  hx : callS S k = some x
  due : eDue (dueS S st c) = .tuple [.str (if fst then "first" else "further"), eKey k, dI l]
  ny : cl[k.n]? = some y
  go : goS S st c = sentS (withCaller st c ⟨pu, clr.tries + 1, withCalls clr.groups k.g cl⟩) l (.ask k x.cell x.number (y.first + x.span) (heardOf cl))
  cse : (fst = true ∧ k.n = G.calls.length ∧ k.n < lenS S k.c k.g ∧ cl = G.calls ++ [⟨st.clock, st.clock, l, none⟩] ∧ y = ⟨st.clock, st.clock, l, none⟩ ∧ pu = flesser (fplus clr.purse cs.rate) cs.most) ∨
    (fst = false ∧ ∃ x0, G.calls[k.n]? = some x0 ∧ x0.ans = none ∧ cl = G.calls.set k.n ⟨x0.first, st.clock, l, none⟩ ∧ y = ⟨x0.first, st.clock, l, none⟩ ∧ pu = fminus clr.purse whole ∧ fless clr.purse whole = false)
theorem goes_of {S : Setting} {st : State} {c : Nat} (wt : Wf S st) (h : dueS S st c ≠ .nothing) : ∃ k l fst cs clr G x pu cl y, Goes S st c k l fst cs clr G x pu cl y := by
  cases hD : dueS S st c with
  | nothing => exact absurd hD h
  | first k l =>
    obtain ⟨clr, G, hclr, hG, rfl, hn, hnl, _, hl⟩ := due_first hD
    obtain ⟨cs, hcs, hlen⟩ := wt.shp.clrS hclr
    have hc' : k.c < st.callers.length := (List.getElem?_eq_some_iff.mp hclr).1
    have hg := grp_mk hclr hG
    have hgl := (List.getElem?_eq_some_iff.mp hG).1
    obtain ⟨x, hx⟩ := callS_len hnl
    have e1 : clrD st k.c = clr := by unfold clrD; rw [hclr]; rfl
    have e3 : grpD st k.c k.g = G := by unfold grpD; rw [hg]; rfl
    have e4 : clrSD S k.c = cs := by unfold clrSD; rw [hcs]; rfl
    have eT : triedS S st k.c k l true = withCaller st k.c ⟨flesser (fplus clr.purse cs.rate) cs.most, clr.tries + 1, withCalls clr.groups k.g (G.calls ++ [Call.mk st.clock st.clock l none])⟩ := by
      unfold triedS
      rw [e1, e3, e4]
      rfl
    have eg : grp (triedS S st k.c k l true) k.c k.g = some ⟨heardOf (G.calls ++ [Call.mk st.clock st.clock l none]), G.calls ++ [Call.mk st.clock st.clock l none]⟩ := by
      rw [eT]
      exact grp_mk (withCaller_at hc') (withCalls_at hgl)
    have ey : (G.calls ++ [Call.mk st.clock st.clock l none])[k.n]? = some (Call.mk st.clock st.clock l none) := by rw [hn]; simp
    refine ⟨k, l, true, cs, clr, G, x, _, _, _, hcs, hclr, hG, rfl, hl, hx, by rw [hD]; rfl, ey, ?_, .inl ⟨rfl, hn, hnl, rfl, rfl, rfl⟩⟩
    unfold goS
    rw [hD]
    show sentS (triedS S st k.c k l true) l (askOf S (triedS S st k.c k l true) k) = _
    have ea : askOf S (triedS S st k.c k l true) k = .ask k x.cell x.number (st.clock + x.span) (heardOf (G.calls ++ [Call.mk st.clock st.clock l none])) := by
      unfold askOf callSD callD callAt grpD
      rw [hx, eg]
      simp [ey]
    rw [ea, eT]
  | further k l =>
    obtain ⟨clr, G, x0, hclr, hG, hx0, rfl, hl, ha, _, hless, _⟩ := due_further hD
    obtain ⟨cs, hcs, hlen⟩ := wt.shp.clrS hclr
    have hc' : k.c < st.callers.length := (List.getElem?_eq_some_iff.mp hclr).1
    have hg := grp_mk hclr hG
    have hgl := (List.getElem?_eq_some_iff.mp hG).1
    have hnn := (List.getElem?_eq_some_iff.mp hx0).1
    have gl := (wt.grp _ _ _ hg).len
    obtain ⟨x, hx⟩ := callS_len (S := S) (k := k) (by omega)
    have e1 : clrD st k.c = clr := by unfold clrD; rw [hclr]; rfl
    have e3 : grpD st k.c k.g = G := by unfold grpD; rw [hg]; rfl
    have e4 : callD st k = x0 := by unfold callD callAt; rw [hg]; simp [hx0]
    have eT : triedS S st k.c k l false = withCaller st k.c ⟨fminus clr.purse whole, clr.tries + 1, withCalls clr.groups k.g (G.calls.set k.n (Call.mk x0.first st.clock l none))⟩ := by
      unfold triedS
      rw [e1, e3, e4]
      rfl
    have eg : grp (triedS S st k.c k l false) k.c k.g = some ⟨heardOf (G.calls.set k.n (Call.mk x0.first st.clock l none)), G.calls.set k.n (Call.mk x0.first st.clock l none)⟩ := by
      rw [eT]
      exact grp_mk (withCaller_at hc') (withCalls_at hgl)
    have ey : (G.calls.set k.n (Call.mk x0.first st.clock l none))[k.n]? = some (Call.mk x0.first st.clock l none) := List.getElem?_set_self hnn
    refine ⟨k, l, false, cs, clr, G, x, _, _, _, hcs, hclr, hG, rfl, by omega, hx, by rw [hD]; rfl, ey, ?_, .inr ⟨rfl, x0, hx0, ha, rfl, rfl, rfl, hless⟩⟩
    unfold goS
    rw [hD]
    show sentS (triedS S st k.c k l false) l (askOf S (triedS S st k.c k l false) k) = _
    have ea : askOf S (triedS S st k.c k l false) k = .ask k x.cell x.number (x0.first + x.span) (heardOf (G.calls.set k.n (Call.mk x0.first st.clock l none))) := by
      unfold askOf callSD callD callAt grpD
      rw [hx, eg]
      simp [ey]
    rw [ea, eT]
end TC
set_option Elab.async false
set_option linter.all false
set_option maxRecDepth 100000
set_option maxHeartbeats 4000000
/-! The law's own machine: go. -/
namespace TC
open PySem L2
def OwA.setM (o : OwA) (i : Nat) (m : MnA) : OwA := { o with folk := o.folk.set i m }
def MnA.setG (m : MnA) (j : Nat) (gp : GpA) : MnA := { m with groups := m.groups.set j gp }
def GpA.setC (gp : GpA) (k : Nat) (x : CaA) : GpA := { gp with calls := gp.calls.set k x }
def OwA.setL (o : OwA) (i : Nat) (l : LnA) : OwA := { o with lanes := o.lanes.set i l }
section
variable {w : OwA} {m m' : MnA} {gp gp' : GpA} {x x' : CaA} {l l' : LnA} {i j k : Nat}
theorem put_man (h : w.folk[i]? = some m) : MT.put m'.t [1, i] w.t = (w.setM i m').t := by
  simp [MT.put, OwA.t, OwA.setM, h, List.map_set]
theorem put_gp (h : w.folk[i]? = some m) (h2 : m.groups[j]? = some gp) : MT.put gp'.t [1, i, 2, j] w.t = (w.setM i (m.setG j gp')).t := by
  simp [MT.put, OwA.t, OwA.setM, h, List.map_set, MnA.t, MnA.setG, h2]
theorem put_ca (h : w.folk[i]? = some m) (h2 : m.groups[j]? = some gp) (h3 : gp.calls[k]? = some x) : MT.put x'.t [1, i, 2, j, k] w.t = (w.setM i (m.setG j (gp.setC k x'))).t := by
  simp [MT.put, OwA.t, OwA.setM, h, List.map_set, MnA.t, MnA.setG, h2, GpA.t, GpA.setC, h3]
theorem put_ln (h : w.lanes[i]? = some l) : MT.put l'.t [2, i] w.t = (w.setL i l').t := by
  simp [MT.put, OwA.t, OwA.setL, h, List.map_set]
theorem setM_at (h : w.folk[i]? = some m) : (w.setM i m').folk[i]? = some m' := List.getElem?_set_self (List.getElem?_eq_some_iff.mp h).1
theorem setG_at (h : m.groups[j]? = some gp) : (m.setG j gp').groups[j]? = some gp' := List.getElem?_set_self (List.getElem?_eq_some_iff.mp h).1
theorem setC_at (h : gp.calls[k]? = some x) : (gp.setC k x').calls[k]? = some x' := List.getElem?_set_self (List.getElem?_eq_some_iff.mp h).1
theorem setM_M : (w.setM i m).setM i m' = w.setM i m' := by unfold OwA.setM; simp
theorem setG_cs (h : m.groups[j]? = some gp) : (m.setG j gp').groups.map GpA.cs = (m.groups.map GpA.cs).set j gp'.cs := by unfold MnA.setG; rw [List.map_set]
end
theorem calls_with {gs : List Grp} {g : Nat} {cs : List Call} : (withCalls gs g cs).map (·.calls) = (gs.map (·.calls)).set g cs := by unfold withCalls; rw [List.map_set]
theorem Sim.go {o : OwA} {st : State} {c l : Nat} {m1 : MnA} {row : Clr} {x : Letter} {ln : LnA} (h : Sim o st) (hm : SimM m1 row) (hl : o.lanes[l]? = some ln) : Sim ((o.setM c m1).setL l { ln with ls := ln.ls ++ [x] }) (sentS (withCaller st c row) l x) := by
  have hln : st.lanes[l]? = some ln.ls := by rw [← h.lanes, List.getElem?_map, hl]; rfl
  refine ⟨h.clock, Paired.set hm c h.folk, ?_, h.book, h.cells, h.clen, h.rows, h.rnd, h.rlen⟩
  show ((o.lanes.set l { ln with ls := ln.ls ++ [x] }).map (·.ls)) = st.lanes.set l (((withCaller st c row).lanes[l]?.getD []) ++ [x])
  rw [List.map_set, h.lanes]
  show st.lanes.set l (ln.ls ++ [x]) = st.lanes.set l ((st.lanes[l]?.getD []) ++ [x])
  rw [hln]
  rfl
theorem nilD : ∀ {ds : List PyData}, (ds.map MT.d).length = ds.length := by intro ds; rw [List.length_map]
section
variable {P : Program} {w : World} {K : PySem.W.Frag} {mg : Str → Option Value} {base : Heap}
theorem sc_lgo : FnScope ["_law_own", "_law_deal_here", "_law_who", "_law_found", "_law_mine", "_law_word", "_law_label", "_law_lane", "_law_calls", "_law_purse", "_law_rate", "_law_top", "_law_cell", "_law_number", "_law_span", "_law_last"] ["_law_own", "_law_deal_here", "_law_who"] (defScope (top 81)) := ⟨rfl, rfl, rfl, by decide +kernel, rfl, by decide +kernel, by decide +kernel⟩
def R_lgo (K : PySem.W.Frag) (xs : List Sl) (Q : Sl → Wld → Prop) : Prop := ∃ (S : Setting) (st : State) (o : OwA) (c : Nat), xs = [.w (.ref o.a) (OW K o), .d (eSetting S), .d (dI c)] ∧ WfS S ∧ Sim o st ∧ Wf S st ∧ Szs st ∧ c < S.callers.length ∧ ∀ (d : PyData) (o' : OwA), o'.a = o.a → Sim o' (goS S st c) → Q (.d d) (OW K o')
theorem c_lgo (T : Bl mg) (O : Own K mg "_law_go" (defD "_law_go" (top 81)) []) (ch : Cal P w K mg base 1 "_law_heard" (ASp K (R_lheard K)) []) (cd : Cal P w K mg base 2 "_law_due" (ASp K (R_ldue K)) []) : Cal P w K mg base 3 "_law_go" (MSp K (R_lgo K)) [] := by
  refine cal_mut O sc_lgo ?_ (by decide) (fun _ _ _ _ _ _ us hl => match us, hl with | [_, _, _], _ => rfl) ?_
  · rintro xs Q ⟨S, st, o, c, rfl, _⟩; rfl
  · rintro f cdv A outer s H E hr v W xs Q ⟨S, st, o, c, e, ws, sim, wf, zs, hc, hQ⟩
    cases e
    have hsz := sz
    have nd := sc_lgo.nd
    have hu := roomU hr
    have hu1 : (A.deeper (PyProof.Rows.envOfC "_law_go" (defScope (top 81)) s.heap.objs.size f cdv)).units + 1 < cLine := by omega
    obtain ⟨cs0, hcs0⟩ : ∃ cs, S.callers[c]? = some cs := ⟨_, List.getElem?_eq_getElem hc⟩
    obtain ⟨clr0, hclr0, hgl⟩ := wf.shp.clr hcs0
    obtain ⟨m, hm, sm⟩ := Paired.at_ sim.folk hclr0
    refine sjs_par 3 4 (u := .d (eDue (dueS S st c))) (v := .r (.ref m.a)) (ed_callB cd hr (ab_cons (eb_b (ev_w 0) (hf_w 0)) (ab_cons (eb_d (ed_var 1)) (ab_cons (eb_d (ed_var 2)) ab_nil))) (fun xs hx => ?_)) (ev_oman (hf_w 0) hm (ev_ofolk hu1 (hf_w 0) (ev_w 0)) (ed_var 2)) ?_ rfl nd
    · obtain ⟨y1, ys1, rfl, rfl, y2, ys2, rfl, rfl, y3, ys3, rfl, rfl, rfl⟩ := hx
      exact ⟨S, st, o, c, rfl, ws, sim, wf, hc, rfl⟩
    by_cases hno : dueS S st c = .nothing
    · rw [hno]
      refine sjs_takeR (td_is (td_eqD (roomU64 hr) (ed_var 3) (ed_tup (ad_consd ed_str ad_nild)) (lay_due .nothing).shaped (lay_due .nothing).shaped) (lay_due .nothing).rf) (sjs_ret (ed_var 3) ⟨OW K o, rfl, hQ _ o rfl ?_⟩)
      unfold goS
      rw [hno]
      exact sim
    obtain ⟨k, l, fst, cs, clr, G, x, pu, cl, y, gs⟩ := goes_of wf hno
    have hcs := gs.hcs
    rw [hcs0] at hcs
    cases hcs
    have hclr := gs.hclr
    rw [hclr0] at hclr
    cases hclr
    obtain ⟨gp, hgp, hgc⟩ := sm.grp gs.hG
    have kc := gs.kc
    subst kc
    obtain ⟨lcs, hlcs, hxl⟩ := callS_at gs.hx
    obtain ⟨cs1, q1, q2⟩ := grpS_at hlcs
    rw [hcs0] at q1
    cases q1
    have ll : l < o.lanes.length := by
      have := congrArg List.length sim.lanes
      rw [List.length_map, wf.nl] at this
      rw [this]; exact gs.l2
    obtain ⟨ln, hln⟩ : ∃ ln, o.lanes[l]? = some ln := ⟨_, List.getElem?_eq_getElem ll⟩
    have lns : ln.ls.length ≤ 100000 := zs.lanes ln.ls (List.mem_of_getElem? (i := l) (by rw [← sim.lanes, List.getElem?_map, hln]; rfl))
    have glen : G.calls.length ≤ 4 := by
      have h1 := (wf.grp _ _ _ (grp_mk hclr0 gs.hG)).len
      have h2 := ws.grp hlcs
      unfold lenS at h1
      rw [hlcs] at h1
      exact Nat.le_trans h1 h2
    have ra := ws.rate _ (List.mem_of_getElem? hcs0)
    have mo := ws.most _ (List.mem_of_getElem? hcs0)
    have pc := wf.purse _ (List.mem_of_getElem? hclr0)
    rw [gs.due]
    have lay0 : Lay 2 (.tuple [.str (if fst then "first" else "further"), eKey k, dI l]) := by rw [← gs.due]; exact lay_due _
    have eq0 : PyData.eqv (.tuple [.str (if fst then "first" else "further"), eKey k, dI l]) (.tuple [.str "nothing"]) = false := by
      rw [← gs.due, eqv_due]
      cases hD : dueS S st k.c with
      | nothing => exact absurd hD hno
      | _ => rfl
    refine sjs_skip (td_is (td_eqD (roomU64 hr) (ed_var 3) (ed_tup (ad_consd ed_str ad_nild)) lay0.shaped (lay_due .nothing).shaped) eq0) ?_
    refine sjs_asg (ed_var 3) (gd_tup rfl (gds_cons (gd_name 5 nd) (gds_cons (gd_name 6 nd) (gds_cons (gd_name 7 nd) gds_nil))) rfl) ?_
    refine SJs.to [.w (.ref o.a) (OW K o), .d (eSetting S), .d (dI k.c), .d (.tuple [.str (if fst then "first" else "further"), eKey k, dI l]), .r (.ref m.a), .d (.str (if fst then "first" else "further")), .d (eKey k), .d (dI l), .no, .no, .no, .no, .no, .no, .no, .no] ?_
    refine sjs_par 8 9 (u := .r (.ref gp.a)) (v := .d (eFr m.purse)) (ev_ogp (hf_w 0) hm hgp (ev_mcalls hu1 (hf_w 0) hm (ev_raw 4)) (ed_ic (ed_var 6) rfl)) (ed_mpurse hu1 (hf_w 0) hm (ev_raw 4)) ?_ rfl nd
    refine SJs.to [.w (.ref o.a) (OW K o), .d (eSetting S), .d (dI k.c), .d (.tuple [.str (if fst then "first" else "further"), eKey k, dI l]), .r (.ref m.a), .d (.str (if fst then "first" else "further")), .d (eKey k), .d (dI l), .r (.ref gp.a), .d (eFr m.purse), .no, .no, .no, .no, .no, .no] ?_
    -- the purse, the calls
    refine sjs_cons (M := fun ρ => ∃ (m1 : MnA) (gp1 : GpA) (s9 s10 s11 : Sl), m1.a = m.a ∧ gp1.a = gp.a ∧ m1.tries = m.tries ∧ m1.groups[k.g]? = some gp1 ∧ gp1.cs = cl ∧ SimM { m1 with tries := m.tries + 1 } ⟨pu, clr0.tries + 1, withCalls clr0.groups k.g cl⟩ ∧
      ρ = [.w (.ref o.a) (OW K (o.setM k.c m1)), .d (eSetting S), .d (dI k.c), .d (.tuple [.str (if fst then "first" else "further"), eKey k, dI l]), .r (.ref m.a), .d (.str (if fst then "first" else "further")), .d (eKey k), .d (dI l), .r (.ref gp.a), s9, s10, s11, .no, .no, .no, .no])
      (sj_if (k := fst) (td_is (td_eqS (ed_var 5) ed_str) (by cases fst <;> decide +kernel)) (fun h => ?_) fun h => ?_) ?_
    · subst h
      rcases gs.cse with ⟨_, hn, hnl, hcl, hy, hpu⟩ | ⟨z, _⟩
      rotate_left
      · cases z
      refine sjs_asg (ed_from (ed_xm eClrS (ed_ic (ed_var 1) rfl) (ed_var 2) hcs0)) (gd_tup rfl (gds_cons (gd_name 10 nd) (gds_cons (gd_name 11 nd) gds_nil)) rfl) ?_
      refine sjs_set 9 (y := .d (eFr (m.purse.1 * cs0.rate.2 + cs0.rate.1 * m.purse.2, m.purse.2 * cs0.rate.2))) (ed_tup (ad_consd (ed_addn (ed_muln (ed_ic (ed_var 9) rfl) (ed_ic (ed_var 10) rfl) (.inr (by omega))) (ed_muln (ed_ic (ed_var 10) rfl) (ed_ic (ed_var 9) rfl) (.inl (by omega)))) (ad_consd (ed_muln (ed_ic (ed_var 9) rfl) (ed_ic (ed_var 10) rfl) (.inr (by omega))) ad_nild))) ?_ nd
      refine SJs.to [.w (.ref o.a) (OW K o), .d (eSetting S), .d (dI k.c), .d (.tuple [.str "first", eKey k, dI l]), .r (.ref m.a), .d (.str "first"), .d (eKey k), .d (dI l), .r (.ref gp.a), .d (eFr (m.purse.1 * cs0.rate.2 + cs0.rate.1 * m.purse.2, m.purse.2 * cs0.rate.2)), .d (eFr cs0.rate), .d (eFr cs0.most), .no, .no, .no, .no] ?_
      have hfp : Feq (m.purse.1 * cs0.rate.2 + cs0.rate.1 * m.purse.2, m.purse.2 * cs0.rate.2) (fplus clr0.purse cs0.rate) := feq_plus sm.pq pc.1 ra.1
      have hp0 : 0 < m.purse.2 * cs0.rate.2 := Nat.mul_pos sm.pd ra.1
      have hp1 : 0 < (fplus clr0.purse cs0.rate).2 := fmk_pos (Nat.mul_pos pc.1 ra.1)
      generalize hP : ((m.purse.1 * cs0.rate.2 + cs0.rate.1 * m.purse.2, m.purse.2 * cs0.rate.2) : Fr) = p1 at hfp ⊢
      have hp1' : 0 < p1.2 := by rw [← hP]; exact hp0
      have hls := feq_less (t := cs0.most) hfp hp1' hp1
      let pn : Fr := if p1.1 * cs0.most.2 < cs0.most.1 * p1.2 then p1 else cs0.most
      refine sjs_tkey 0 (pth := [1, k.c]) (ks := mKeys) (k := .inr "purse") (j := 0) (Φ := (· = .d (eFr pn))) hu1 rfl (ev_raw 4) ed_str (en_d (ev_if (k := decide (p1.1 * cs0.most.2 < cs0.most.1 * p1.2)) (td_ltn (ed_muln (ed_ic (ed_var 9) rfl) (ed_ic (ed_var 11) rfl) (.inr (by omega))) (ed_muln (ed_ic (ed_var 11) rfl) (ed_ic (ed_var 9) rfl) (.inl (by omega)))) (fun h => ?_) fun h => ?_)) (at_man hm) (fun z hz => ?_) (by decide +kernel)
      · have h := of_decide_eq_true h
        show ED _ _ _ (eFr (if p1.1 * cs0.most.2 < cs0.most.1 * p1.2 then p1 else cs0.most))
        rw [if_pos h]; exact ed_var 9
      · have h := of_decide_eq_false h
        show ED _ _ _ (eFr (if p1.1 * cs0.most.2 < cs0.most.1 * p1.2 then p1 else cs0.most))
        rw [if_neg h]; exact ed_var 11
      subst hz
      rw [show MT.put (.n m.a (.dk mKeys) ([.d (eFr m.purse), .d (dI m.tries), .n m.ca .lst (m.groups.map GpA.t)].set 0 (.d (eFr pn)))) [1, k.c] o.t = (o.setM k.c { m with purse := pn }).t from put_man (m' := { m with purse := pn }) hm]
      refine SJs.to [.w (.ref o.a) (OW K (o.setM k.c { m with purse := pn })), .d (eSetting S), .d (dI k.c), .d (.tuple [.str "first", eKey k, dI l]), .r (.ref m.a), .d (.str "first"), .d (eKey k), .d (dI l), .r (.ref gp.a), .d (eFr p1), .d (eFr cs0.rate), .d (eFr cs0.most), .no, .no, .no, .no] ?_
      have hm1 : (o.setM k.c { m with purse := pn }).folk[k.c]? = some { m with purse := pn } := setM_at hm
      have hok := sim.clock
      refine sjs_tapp 0 (pth := [1, k.c, 2, k.g]) rfl (ev_raw 8) (en_l (ds := [dI st.clock, dI st.clock, dI l, .none]) (ev_lst (ad_consd (ed_is (ed_oclock hu1 (hf_w 0) (ev_w 0)) (by rw [← hok]; rfl)) (ad_consd (ed_is (ed_oclock hu1 (hf_w 0) (ev_w 0)) (by rw [← hok]; rfl)) (ad_consd (ed_var 7) (ad_consd ed_non ad_nild)))))) (at_gp hm1 hgp) (by rw [List.length_map, GpA.len, hgc]; omega) (fun z hz => ?_)
      obtain ⟨q, rfl⟩ := hz
      have eput : MT.put (.n gp.a .lst (gp.calls.map CaA.t ++ [.n q .lst ([dI st.clock, dI st.clock, dI l, .none].map MT.d)])) [1, k.c, 2, k.g] (o.setM k.c { m with purse := pn }).t = (o.setM k.c (MnA.setG { m with purse := pn } k.g { gp with calls := gp.calls ++ [⟨q, ⟨st.clock, st.clock, l, none⟩⟩] })).t := by
        have z := put_gp (gp' := { gp with calls := gp.calls ++ [⟨q, ⟨st.clock, st.clock, l, none⟩⟩] }) hm1 hgp
        rw [setM_M] at z
        rw [← z]
        congr 1
        simp [GpA.t, CaA.t, CaA.ds, eOAns]
      rw [eput]
      have ecs : GpA.cs { gp with calls := gp.calls ++ [⟨q, ⟨st.clock, st.clock, l, none⟩⟩] } = cl := by
        rw [hcl, ← hgc]
        simp [GpA.cs]
      refine sjs_nil ⟨MnA.setG { m with purse := pn } k.g { gp with calls := gp.calls ++ [⟨q, ⟨st.clock, st.clock, l, none⟩⟩] }, { gp with calls := gp.calls ++ [⟨q, ⟨st.clock, st.clock, l, none⟩⟩] }, _, _, _, rfl, rfl, rfl, setG_at hgp, ecs, ?_, rfl⟩
      refine ⟨?_, ?_, by show m.tries + 1 = clr0.tries + 1; rw [sm.tr], ?_⟩
      · show 0 < pn.2
        show 0 < (if p1.1 * cs0.most.2 < cs0.most.1 * p1.2 then p1 else cs0.most).2
        split
        · exact hp1'
        · exact mo.1
      · show Feq pn pu
        rw [hpu]
        unfold flesser
        rw [hls]
        show Feq (if p1.1 * cs0.most.2 < cs0.most.1 * p1.2 then p1 else cs0.most) _
        by_cases h : p1.1 * cs0.most.2 < cs0.most.1 * p1.2
        · rw [if_pos h, if_pos (decide_eq_true h)]; exact hfp
        · rw [if_neg h, if_neg (by simpa using h)]; exact Feq.rf _
      · show (MnA.setG { m with purse := pn } k.g _).groups.map GpA.cs = _
        rw [setG_cs (m := { m with purse := pn }) hgp, ecs, calls_with]
        show (m.groups.map GpA.cs).set k.g cl = _
        rw [sm.gr]
    · subst h
      rcases gs.cse with ⟨z, _⟩ | ⟨_, x0, hx0, ha, hcl, hy, hpu, hls⟩
      · cases z
      have hle : m.purse.2 ≤ m.purse.1 := by
        have z := sim_less (a := m.purse) (b := clr0.purse) sm.pq sm.pd pc.1
        rw [hls] at z
        have := of_decide_eq_false z.symm
        omega
      refine sjs_tkey 0 (pth := [1, k.c]) (ks := mKeys) (k := .inr "purse") (j := 0) (Φ := (· = .d (eFr (m.purse.1 - m.purse.2, m.purse.2)))) hu1 rfl (ev_raw 4) ed_str (en_d (ed_tup (ad_consd (ed_subn (ed_ic (ed_var 9) rfl) (ed_ic (ed_var 9) rfl) hle) (ad_consd (ed_ic (ed_var 9) rfl) ad_nild)))) (at_man hm) (fun z hz => ?_) (by decide +kernel)
      subst hz
      rw [show MT.put (.n m.a (.dk mKeys) ([.d (eFr m.purse), .d (dI m.tries), .n m.ca .lst (m.groups.map GpA.t)].set 0 (.d (eFr (m.purse.1 - m.purse.2, m.purse.2))))) [1, k.c] o.t = (o.setM k.c { m with purse := (m.purse.1 - m.purse.2, m.purse.2) }).t from put_man (m' := { m with purse := (m.purse.1 - m.purse.2, m.purse.2) }) hm]
      have hm1 : (o.setM k.c { m with purse := (m.purse.1 - m.purse.2, m.purse.2) }).folk[k.c]? = some { m with purse := (m.purse.1 - m.purse.2, m.purse.2) } := setM_at hm
      refine SJs.to [.w (.ref o.a) (OW K (o.setM k.c { m with purse := (m.purse.1 - m.purse.2, m.purse.2) })), .d (eSetting S), .d (dI k.c), .d (.tuple [.str "further", eKey k, dI l]), .r (.ref m.a), .d (.str "further"), .d (eKey k), .d (dI l), .r (.ref gp.a), .d (eFr m.purse), .no, .no, .no, .no, .no, .no] ?_
      obtain ⟨xa, hxa, hxc⟩ := GpA.at_ (gp := gp) (n := k.n) (by rw [hgc]; exact hx0)
      have hok := sim.clock
      refine sjs_tidx 0 (pth := [1, k.c, 2, k.g, k.n]) (j := 1) rfl (ev_oca (hf_w 0) hm1 hgp hxa (ev_raw 8) (ed_ic (ed_var 6) rfl)) ed_k (en_d (ed_is (ed_oclock hu1 (hf_w 0) (ev_w 0)) (y := dI st.clock) (by rw [← hok]; rfl))) (at_ca hm1 hgp hxa) (by show 1 < 4; decide) (fun z hz => ?_)
      subst hz
      rw [show MT.put (.n xa.a .lst ((xa.ds.map MT.d).set 1 (.d (dI st.clock)))) [1, k.c, 2, k.g, k.n] (o.setM k.c { m with purse := (m.purse.1 - m.purse.2, m.purse.2) }).t = _ from put_ca (x' := ⟨xa.a, { xa.c with last := st.clock }⟩) hm1 hgp hxa]
      rw [setM_M]
      have hm2 : (o.setM k.c (MnA.setG { m with purse := (m.purse.1 - m.purse.2, m.purse.2) } k.g (gp.setC k.n ⟨xa.a, { xa.c with last := st.clock }⟩))).folk[k.c]? = some (MnA.setG { m with purse := (m.purse.1 - m.purse.2, m.purse.2) } k.g (gp.setC k.n ⟨xa.a, { xa.c with last := st.clock }⟩)) := setM_at hm
      have hg2 : (MnA.setG { m with purse := (m.purse.1 - m.purse.2, m.purse.2) } k.g (gp.setC k.n ⟨xa.a, { xa.c with last := st.clock }⟩)).groups[k.g]? = some (gp.setC k.n ⟨xa.a, { xa.c with last := st.clock }⟩) := setG_at hgp
      have hx2 : (gp.setC k.n ⟨xa.a, { xa.c with last := st.clock }⟩).calls[k.n]? = some ⟨xa.a, { xa.c with last := st.clock }⟩ := setC_at hxa
      refine SJs.to [.w (.ref o.a) (OW K (o.setM k.c (MnA.setG { m with purse := (m.purse.1 - m.purse.2, m.purse.2) } k.g (gp.setC k.n ⟨xa.a, { xa.c with last := st.clock }⟩)))), .d (eSetting S), .d (dI k.c), .d (.tuple [.str "further", eKey k, dI l]), .r (.ref m.a), .d (.str "further"), .d (eKey k), .d (dI l), .r (.ref gp.a), .d (eFr m.purse), .no, .no, .no, .no, .no, .no] ?_
      refine sjs_tidx 0 (pth := [1, k.c, 2, k.g, k.n]) (j := 2) rfl (ev_oca (hf_w 0) hm2 hg2 hx2 (ev_raw 8) (ed_ic (ed_var 6) rfl)) ed_k (en_d (ed_var 7)) (at_ca hm2 hg2 hx2) (by show 2 < 4; decide) (fun z hz => ?_)
      subst hz
      rw [show MT.put (.n xa.a .lst (((CaA.mk xa.a { xa.c with last := st.clock }).ds.map MT.d).set 2 (.d (dI l)))) [1, k.c, 2, k.g, k.n] (o.setM k.c (MnA.setG { m with purse := (m.purse.1 - m.purse.2, m.purse.2) } k.g (gp.setC k.n ⟨xa.a, { xa.c with last := st.clock }⟩))).t = _ from put_ca (x' := ⟨xa.a, ⟨xa.c.first, st.clock, l, xa.c.ans⟩⟩) hm2 hg2 hx2]
      rw [setM_M]
      have eG : MnA.setG (MnA.setG { m with purse := (m.purse.1 - m.purse.2, m.purse.2) } k.g (gp.setC k.n ⟨xa.a, { xa.c with last := st.clock }⟩)) k.g (GpA.setC (gp.setC k.n ⟨xa.a, { xa.c with last := st.clock }⟩) k.n ⟨xa.a, ⟨xa.c.first, st.clock, l, xa.c.ans⟩⟩) = MnA.setG { m with purse := (m.purse.1 - m.purse.2, m.purse.2) } k.g (gp.setC k.n ⟨xa.a, ⟨xa.c.first, st.clock, l, xa.c.ans⟩⟩) := by
        simp [MnA.setG, GpA.setC]
      rw [eG]
      have ecs : (gp.setC k.n ⟨xa.a, ⟨xa.c.first, st.clock, l, xa.c.ans⟩⟩).cs = cl := by
        rw [hcl, ← hgc]
        unfold GpA.cs GpA.setC
        rw [List.map_set]
        show _ = (gp.calls.map (·.c)).set k.n ⟨x0.first, st.clock, l, none⟩
        rw [hxc, ha]
      refine sjs_nil ⟨MnA.setG { m with purse := (m.purse.1 - m.purse.2, m.purse.2) } k.g (gp.setC k.n ⟨xa.a, ⟨xa.c.first, st.clock, l, xa.c.ans⟩⟩), gp.setC k.n ⟨xa.a, ⟨xa.c.first, st.clock, l, xa.c.ans⟩⟩, _, _, _, rfl, rfl, rfl, setG_at hgp, ecs, ?_, rfl⟩
      refine ⟨sm.pd, ?_, by show m.tries + 1 = clr0.tries + 1; rw [sm.tr], ?_⟩
      · rw [hpu]
        exact feq_minus sm.pq pc.1
      · show (MnA.setG { m with purse := (m.purse.1 - m.purse.2, m.purse.2) } k.g _).groups.map GpA.cs = _
        rw [setG_cs (m := { m with purse := (m.purse.1 - m.purse.2, m.purse.2) }) hgp, ecs, calls_with]
        show (m.groups.map GpA.cs).set k.g cl = _
        rw [sm.gr]
    · rintro ρ ⟨m1, gp1, s9, s10, s11, ea, eg, et, hg1, hcs1, sm1, rfl⟩
      have hm1 : (o.setM k.c m1).folk[k.c]? = some m1 := setM_at hm
      rw [← ea, ← eg]
      obtain ⟨xa, hxa, hxc⟩ := GpA.at_ (gp := gp1) (n := k.n) (by rw [hcs1]; exact gs.ny)
      refine sjs_asg (d := eCallS x) (ed_xm eCallS (ed_xm eGrpS (ed_ic (ed_xm eClrS (ed_ic (ed_var 1) rfl) (ed_var 2) hcs0) rfl) (ed_ic (ed_var 6) rfl) q2) (ed_ic (ed_var 6) rfl) hxl) (gd_tup rfl (gds_cons (gd_name 12 nd) (gds_cons (gd_name 13 nd) (gds_cons (gd_name 14 nd) gds_nil))) rfl) ?_
      refine SJs.to [.w (.ref o.a) (OW K (o.setM k.c m1)), .d (eSetting S), .d (dI k.c), .d (.tuple [.str (if fst then "first" else "further"), eKey k, dI l]), .r (.ref m1.a), .d (.str (if fst then "first" else "further")), .d (eKey k), .d (dI l), .r (.ref gp1.a), s9, s10, s11, .d (.str x.cell), .d (dI x.number), .d (dI x.span), .no] ?_
      refine sjs_set 15 (y := .d (dI (y.first + x.span))) (ed_addn (ed_is (ed_oca (n := 0) (hf_w 0) hm1 hg1 hxa (ev_oca (hf_w 0) hm1 hg1 hxa (ev_raw 8) (ed_ic (ed_var 6) rfl)) ed_k rfl) (by rw [hxc])) (ed_var 14)) ?_ nd
      have hl1 : (o.setM k.c m1).lanes[l]? = some ln := hln
      refine sjs_tapp 0 (pth := [2, l]) rfl (ev_oln (hf_w 0) hl1 (ev_olanes hu1 (hf_w 0) (ev_w 0)) (ed_var 7)) (en_d (d := eLetter (.ask k x.cell x.number (y.first + x.span) (heardOf cl))) (ed_tup (ad_consd ed_str (ad_consd (ed_var 6) (ad_consd (ed_var 12) (ad_consd (ed_var 13) (ad_consd (ed_var 15) (ad_consd (ed_callB ch hr (ab_cons (eb_b (ev_raw 8) (hf_sub [1, k.c, 2, k.g] (hf_w 0) (at_gp hm1 hg1))) ab_nil) (fun xs hx => ?_)) ad_nild)))))))) (at_ln hl1) (by rw [List.length_map, List.length_map]; omega) (fun z hz => ?_)
      · obtain ⟨z, zs, rfl, rfl, rfl⟩ := hx
        exact ⟨gp1, rfl, by rw [hcs1]⟩
      subst hz
      have eput : MT.put (.n ln.a .lst ((ln.ls.map eLetter).map MT.d ++ [.d (eLetter (.ask k x.cell x.number (y.first + x.span) (heardOf cl)))])) [2, l] (o.setM k.c m1).t = ((o.setM k.c m1).setL l { ln with ls := ln.ls ++ [.ask k x.cell x.number (y.first + x.span) (heardOf cl)] }).t := by
        rw [← put_ln (l' := { ln with ls := ln.ls ++ [.ask k x.cell x.number (y.first + x.span) (heardOf cl)] }) hl1]
        congr 1
        simp [LnA.t]
      rw [eput]
      generalize hla : ({ ln with ls := ln.ls ++ [.ask k x.cell x.number (y.first + x.span) (heardOf cl)] } : LnA) = la
      have hm2 : ((o.setM k.c m1).setL l la).folk[k.c]? = some m1 := hm1
      refine sjs_tkey 0 (pth := [1, k.c]) (ks := mKeys) (k := .inr "tries") (j := 1) (Φ := (· = .d (dI (m.tries + 1)))) hu1 rfl (ev_raw 4) ed_str (en_d (ed_addn (ed_is (ed_mtries hu1 (hf_w 0) hm2 (ev_raw 4)) (by rw [et])) ed_k)) (at_man hm2) (fun z hz => ?_) (by decide +kernel)
      subst hz
      rw [show MT.put (.n m1.a (.dk mKeys) ([.d (eFr m1.purse), .d (dI m1.tries), .n m1.ca .lst (m1.groups.map GpA.t)].set 1 (.d (dI (m.tries + 1))))) [1, k.c] ((o.setM k.c m1).setL l la).t = _ from put_man (m' := { m1 with tries := m.tries + 1 }) hm2]
      have eo : ((o.setM k.c m1).setL l la).setM k.c { m1 with tries := m.tries + 1 } = (o.setM k.c { m1 with tries := m.tries + 1 }).setL l la := by
        simp [OwA.setM, OwA.setL]
      rw [eo]
      refine sjs_ret (ed_var 3) ⟨OW K ((o.setM k.c { m1 with tries := m.tries + 1 }).setL l la), rfl, hQ _ _ rfl ?_⟩
      rw [gs.go, ← hla]
      exact sim.go sm1 hln
end
end TC
set_option linter.all false
/-! Plain: the house's rows and cells, told by the law's own machine. -/
namespace TC
open PySem L2
/-! ### cells -/
theorem getA_put (cs : List (Str × Nat)) (x y : Str) (v : Nat) : getA (putA cs x v) y = if y = x then v else getA cs y := by
  have h1 : valV (cellsK (putA cs x v)) (.inr y) = if (Sum.inr y : L2.Key) = .inr x then some (V.int (v : Int)) else valV (cellsK cs) (.inr y) := by rw [← put_cells, valV_put]
  rw [valV_cells, valV_cells] at h1
  unfold getA
  by_cases h : y = x
  · subst h
    rw [if_pos rfl] at h1
    rw [if_pos rfl]
    cases q : (putA cs y v).find? fun p => decide (p.1 = y) with
    | none => rw [q] at h1; cases h1
    | some p =>
      rw [q] at h1
      have h1 : V.int (p.2 : Int) = V.int (v : Int) := Option.some.inj h1
      have : (p.2 : Int) = (v : Int) := by injection h1
      show p.2 = v
      omega
  · rw [if_neg (fun q => h (by injection q))] at h1
    rw [if_neg h]
    cases q : (putA cs x v).find? fun p => decide (p.1 = y) with
    | none =>
      rw [q] at h1
      cases q2 : cs.find? fun p => decide (p.1 = y) with
      | none => rfl
      | some p => rw [q2] at h1; cases h1
    | some p =>
      rw [q] at h1
      cases q2 : cs.find? fun p => decide (p.1 = y) with
      | none => rw [q2] at h1; cases h1
      | some p2 =>
        rw [q2] at h1
        have h1 : V.int (p.2 : Int) = V.int (p2.2 : Int) := Option.some.inj h1
        have : (p.2 : Int) = (p2.2 : Int) := by injection h1
        show p.2 = p2.2
        omega
theorem putD_cells (cs : List (Str × Nat)) (x : Str) (v : Nat) : putD (cKV cs) (.inr x) (dI v) = cKV (putA cs x v) := by
  unfold putD putA cKV
  have e : (List.any (cs.map fun p => ((Sum.inr p.1 : L2.Key), dI p.2)) fun kv => decide (kv.1 = (Sum.inr x : L2.Key))) = cs.any fun p => decide (p.1 = x) := by
    rw [List.any_map]
    congr 1
    funext p
    simp
  rw [e]
  split
  · rw [List.map_map, List.map_map]
    refine List.map_congr_left fun p _ => ?_
    simp only [Function.comp, Sum.inr.injEq]
    split <;> rfl
  · rw [List.map_append]
    rfl
theorem findD_cells (cs : List (Str × Nat)) (x : Str) : findD (cKV cs) (.inr x) = (cs.find? fun p => decide (p.1 = x)).map fun p => dI p.2 := by
  unfold findD cKV
  rw [List.find?_map, Option.map_map]
  have e : ((fun p : L2.Key × PyData => decide (p.1 = (Sum.inr x : L2.Key))) ∘ fun p : Str × Nat => ((Sum.inr p.1 : L2.Key), dI p.2)) = fun p => decide (p.1 = x) := by funext p; simp
  rw [e]
  rfl
theorem findD_cellsD (cs : List (Str × Nat)) (x : Str) : (findD (cKV cs) (.inr x)).getD (dI 0) = dI (getA cs x) := by
  rw [findD_cells]
  unfold getA
  cases cs.find? fun p => decide (p.1 = x) <;> rfl
theorem findD_cells_put (cs : List (Str × Nat)) (x : Str) (v : Nat) : findD (cKV (putA cs x v)) (.inr x) = some (dI v) := by
  have h := getA_put cs x x v
  rw [if_pos rfl] at h
  have z : ((putA cs x v).find? fun p => decide (p.1 = x)) ≠ none := fun q => by
    rw [List.find?_eq_none] at q
    unfold putA at q
    split at q
    · rename_i e
      obtain ⟨p, hp, hx⟩ := List.any_eq_true.mp e
      have hx : p.1 = x := of_decide_eq_true hx
      exact q (p.1, v) (List.mem_map.mpr ⟨p, hp, by simp [hx]⟩) (by simp [hx])
    · exact q (x, v) (by simp) (by simp)
  rw [findD_cells]
  unfold getA at h
  cases q : (putA cs x v).find? fun p => decide (p.1 = x) with
  | none => exact absurd q z
  | some p => rw [q] at h; exact congrArg (fun n => some (dI n)) h
/-! ### what waits -/
theorem findD_waits (ws : List Wait) (n : Nat) : findD (wKV ws) (.inl (n : Int)) = (ws.find? fun w => decide (w.n = n)).map eW3 := by
  unfold findD wKV
  rw [List.find?_map, Option.map_map]
  have e : ((fun p : L2.Key × PyData => decide (p.1 = (Sum.inl (n : Int) : L2.Key))) ∘ fun w : Wait => ((Sum.inl (w.n : Int) : L2.Key), eW3 w)) = fun w => decide (w.n = n) := by
    funext p
    simp only [Function.comp, Sum.inl.injEq, decide_eq_decide]
    omega
  rw [e]
  rfl
theorem dropD_waits (ws : List Wait) (n : Nat) : dropD (wKV ws) (.inl (n : Int)) = wKV (ws.filter fun w => decide (w.n ≠ n)) := by
  unfold dropD wKV
  rw [List.filter_map]
  congr 1
  refine List.filter_congr fun w _ => ?_
  simp only [Function.comp, ne_eq, Sum.inl.injEq]
  exact decide_eq_decide.mpr (by omega)
theorem setdD_waits (ws : List Wait) (w : Wait) : setdD (wKV ws) (.inl (w.n : Int)) (eW3 w) = wKV (if w.n ∈ ws.map (·.n) then ws else ws ++ [w]) := by
  unfold setdD
  rw [findD_waits]
  by_cases h : w.n ∈ ws.map (·.n)
  · rw [if_pos h, if_pos]
    obtain ⟨y, hy, he⟩ := List.mem_map.mp h
    cases q : ws.find? fun z => decide (z.n = w.n) with
    | some z => rfl
    | none => rw [List.find?_eq_none] at q; exact absurd (decide_eq_true he) (q y hy)
  · rw [if_neg h]
    have q : (ws.find? fun z => decide (z.n = w.n)) = none := by
      rw [List.find?_eq_none]
      intro z hz he
      exact h (List.mem_map.mpr ⟨z, hz, of_decide_eq_true he⟩)
    rw [q]
    show (if (Option.isSome (none : Option PyData)) = true then _ else putD (wKV ws) (.inl (w.n : Int)) (eW3 w)) = _
    rw [if_neg (by simp)]
    unfold putD
    rw [if_neg]
    · unfold wKV; rw [List.map_append]; rfl
    · intro a
      obtain ⟨p, hp, he⟩ := List.any_eq_true.mp a
      obtain ⟨z, hz, rfl⟩ := List.mem_map.mp hp
      have he : (Sum.inl (z.n : Int) : L2.Key) = .inl (w.n : Int) := of_decide_eq_true he
      have he : (z.n : Int) = (w.n : Int) := by injection he
      exact h (List.mem_map.mpr ⟨z, hz, by omega⟩)
/-! ### rows by place -/
theorem find_set {α κ : Type} [DecidableEq κ] {key : α → κ} {x x' : α} (hk : key x' = key x) (k : κ) : ∀ {xs : List α} {i : Nat}, (xs.map key).Nodup → xs[i]? = some x → ((xs.set i x').find? fun y => decide (key y = k)) = if k = key x then some x' else xs.find? fun y => decide (key y = k)
  | [], i, _, e => by simp at e
  | y :: xs, 0, nd, e => by
    simp at e; subst e
    rw [List.set_cons_zero, List.find?_cons, List.find?_cons, hk]
    by_cases h : key y = k
    · simp [h]
    · simp [h, Ne.symm h]
  | y :: xs, i + 1, nd, e => by
    have e : xs[i]? = some x := by simpa using e
    obtain ⟨n1, n2⟩ := List.nodup_cons.mp nd
    rw [List.set_cons_succ, List.find?_cons, List.find?_cons, find_set hk k n2 e]
    by_cases h : key y = k
    · have : k ≠ key x := fun q => n1 (List.mem_map.mpr ⟨x, List.mem_of_getElem? e, by rw [← q, h]⟩)
      simp [h, this]
    · simp [h]
theorem find_perm {α κ : Type} [DecidableEq κ] {key : α → κ} (k : κ) {xs ys : List α} (p : xs.Perm ys) (nd : (xs.map key).Nodup) : (xs.find? fun y => decide (key y = k)) = ys.find? fun y => decide (key y = k) := by
  have uniq : ∀ {a b : α}, a ∈ xs → b ∈ xs → key a = key b → a = b := fun {a b} ha hb h => by
    clear p
    induction xs with
    | nil => cases ha
    | cons x xs ih =>
      obtain ⟨n1, n2⟩ := List.nodup_cons.mp nd
      rcases List.mem_cons.mp ha with e1 | ha1
      · rcases List.mem_cons.mp hb with e2 | hb1
        · rw [e1, e2]
        · rw [e1] at h
          exact (n1 (List.mem_map.mpr ⟨b, hb1, h.symm⟩)).elim
      · rcases List.mem_cons.mp hb with e2 | hb1
        · rw [e2] at h
          exact (n1 (List.mem_map.mpr ⟨a, ha1, h⟩)).elim
        · exact ih n2 ha1 hb1
  cases h1 : xs.find? fun y => decide (key y = k) with
  | none =>
    symm
    rw [List.find?_eq_none] at h1 ⊢
    exact fun y hy => h1 y (p.mem_iff.mpr hy)
  | some a =>
    have a1 := List.mem_of_find?_eq_some h1
    have a2 : key a = k := by have := List.find?_some h1; simpa using this
    cases h2 : ys.find? fun y => decide (key y = k) with
    | none => rw [List.find?_eq_none] at h2; exact absurd (decide_eq_true a2) (h2 a (p.mem_iff.mp a1))
    | some b =>
      have b1 := List.mem_of_find?_eq_some h2
      have b2 : key b = k := by have := List.find?_some h2; simpa using this
      exact congrArg some (uniq a1 (p.mem_iff.mpr b1) (a2.trans b2.symm))
theorem nd_inj {α κ : Type} {key : α → κ} {a b : α} : ∀ {xs : List α} {i j : Nat}, (xs.map key).Nodup → xs[i]? = some a → xs[j]? = some b → key a = key b → i = j
  | [], i, j, _, e, _, _ => by simp at e
  | x :: xs, 0, 0, _, _, _, _ => rfl
  | x :: xs, 0, j + 1, nd, e, e2, h => by
    simp at e; subst e
    exact ((List.nodup_cons.mp nd).1 (List.mem_map.mpr ⟨b, List.mem_of_getElem? (by simpa using e2), h.symm⟩)).elim
  | x :: xs, i + 1, 0, nd, e, e2, h => by
    simp at e2; subst e2
    exact ((List.nodup_cons.mp nd).1 (List.mem_map.mpr ⟨a, List.mem_of_getElem? (by simpa using e), h⟩)).elim
  | x :: xs, i + 1, j + 1, nd, e, e2, h => congrArg Nat.succ (nd_inj (List.nodup_cons.mp nd).2 (by simpa using e) (by simpa using e2) h)
theorem rowAt_put {rs : List Row} {r : Row} (nd : (rs.map place).Nodup) (c g : Nat) : rowAt (putRow rs r) c g = if (c, g) = place r then some r else rowAt rs c g := by
  unfold rowAt putRow
  by_cases h : (rs.any fun x => decide (place x = place r)) = true
  · rw [if_pos h]
    obtain ⟨q, hq, he⟩ := List.any_eq_true.mp h
    have he : place q = place r := of_decide_eq_true he
    obtain ⟨i, hi⟩ := List.mem_iff_getElem?.mp hq
    have e : (rs.map fun x => if place x = place r then r else x) = rs.set i r := by
      apply List.ext_getElem?
      intro j
      rw [List.getElem?_map]
      by_cases hj : i = j
      · subst hj
        rw [hi, List.getElem?_set_self (List.getElem?_eq_some_iff.mp hi).1]
        simp [he]
      · rw [List.getElem?_set_ne hj]
        cases hx : rs[j]? with
        | none => rfl
        | some x =>
          have : place x ≠ place r := fun z => hj (nd_inj nd hi hx (he.trans z.symm))
          simp [this]
    rw [e, find_set (key := place) he.symm (c, g) nd hi, he]
  · rw [if_neg h, List.find?_append]
    have none_ : ∀ k, k = place r → (rs.find? fun x => decide (place x = k)) = none := fun k hk => by
      rw [List.find?_eq_none]
      intro x hx z
      exact h (List.any_eq_true.mpr ⟨x, hx, decide_eq_true ((of_decide_eq_true z).trans hk)⟩)
    by_cases hc : (c, g) = place r
    · rw [if_pos hc, none_ _ hc]
      simp [hc]
    · rw [if_neg hc]
      have : decide (place r = (c, g)) = false := decide_eq_false fun z => hc z.symm
      simp [this]
theorem rowAt_closed {h : House} {x : Hs} (nd : (h.rows.map place).Nodup) (c g : Nat) : rowAt (closedS h x).rows c g = if (c, g) = place x.row then some x.row else rowAt h.rows c g := by
  rw [← rowAt_put nd]
  exact (find_perm (key := place) (c, g) (List.mergeSort_perm _ _).symm (putRow_nd nd)).symm
theorem getA_sort {cs : List (Str × Nat)} (nd : (cs.map (·.1)).Nodup) (x : Str) : getA (sortC cs) x = getA cs x := by
  unfold getA
  have := find_perm (key := fun p : Str × Nat => p.1) x (xs := cs) (ys := sortC cs) (List.mergeSort_perm _ _).symm nd
  rw [this]
end TC
set_option linter.all false
/-! Plain: the loop of asked, of the program and of the law's own machine. -/
namespace TC
open PySem L2
theorem putA_nd {cs : List (Str × Nat)} {x : Str} {v : Nat} (h : (cs.map (·.1)).Nodup) : ((putA cs x v).map (·.1)).Nodup := by
  unfold putA
  split
  · have e : (cs.map fun p => if p.1 = x then (p.1, v) else p).map (·.1) = cs.map (·.1) := by
      rw [List.map_map]
      refine List.map_congr_left fun p _ => ?_
      simp only [Function.comp]
      split <;> rfl
    rw [e]; exact h
  · rename_i q
    rw [List.map_append, List.nodup_append]
    refine ⟨h, by simp, fun a ha b hb e => ?_⟩
    obtain ⟨p, hp, rfl⟩ := List.mem_map.mp ha
    have hb : b = x := by simpa using hb
    exact q (List.any_eq_true.mpr ⟨p, hp, decide_eq_true (e.trans hb)⟩)
theorem decS_nd {cs : List (Str × Nat)} {clock : Nat} {y : Wait} (h : (cs.map (·.1)).Nodup) : ((decS cs clock y).1.map (·.1)).Nodup := by
  unfold decS
  split
  · exact h
  · exact putA_nd h
theorem decS_sim {cs cs' : List (Str × Nat)} {clock : Nat} {y : Wait} (h : ∀ x, getA cs x = getA cs' x) : (decS cs clock y).2 = (decS cs' clock y).2 ∧ ∀ x, getA (decS cs clock y).1 x = getA (decS cs' clock y).1 x := by
  unfold decS
  split
  · exact ⟨rfl, h⟩
  · refine ⟨by rw [h], fun x => ?_⟩
    show getA (putA _ _ _) x = getA (putA _ _ _) x
    rw [getA_put, getA_put, h, h]
structure LoopR (c g : Nat) (r0 : RwA) (cells : List (Str × Nat)) (book : List (Key × Ans)) (r : RwA) (x : Hs) (due : List Wait) : Prop where
  a : r.a = r0.a
  aa : r.aa = r0.aa
  wa : r.wa = r0.wa
  pl : r.pl = (c, g)
  plx : place x.row = (c, g)
  next : r.next = x.row.next
  floor : r.floor = x.row.floor
  fl : r.floor ≤ r.next
  len : r.answers.length = r.next
  ans : r.answers.drop r.floor = x.row.answers
  bk : book = x.book
  cl : ∀ y, getA cells y = getA x.cells y
  clen : cells.length ≤ book.length
  cnd : (x.cells.map (·.1)).Nodup
  gt : ∀ y ∈ x.row.waiting, x.row.next < y.n
  nd : (x.row.waiting.map (·.n)).Nodup
  due1 : due = [] ∨ ∃ y, due = [y] ∧ y.n = x.row.next
/-- what the name left holds -/
def LeftA (r : RwA) (x : Hs) (due : List Wait) (kv : List (L2.Key × PyData)) : Prop := kv = (due.map fun y => (.inl (y.n : Int), eW3 y)) ∧ r.waits.Perm x.row.waiting
def LeftB (r : RwA) (x : Hs) (due : List Wait) (kv : List (L2.Key × PyData)) : Prop := kv = wKV r.waits ∧ r.waits.Perm (due ++ x.row.waiting)
theorem LoopR.find {c g : Nat} {r0 r : RwA} {cells : List (Str × Nat)} {book : List (Key × Ans)} {x : Hs} {due : List Wait} {kv : List (L2.Key × PyData)} (h : LoopR c g r0 cells book r x due) (hl : LeftA r x due kv ∨ LeftB r x due kv) : findD kv (.inl (x.row.next : Int)) = due.head?.map eW3 := by
  rcases hl with ⟨rfl, _⟩ | ⟨rfl, hp⟩
  · rcases h.due1 with rfl | ⟨y, rfl, hy⟩
    · rfl
    · unfold findD
      simp [hy]
  · rw [findD_waits]
    congr 1
    cases q : r.waits.find? fun w => decide (w.n = x.row.next) with
    | none =>
      rcases h.due1 with rfl | ⟨y, rfl, hy⟩
      · rfl
      · rw [List.find?_eq_none] at q
        exact absurd (decide_eq_true hy) (q y (hp.mem_iff.mpr (by simp)))
    | some z =>
      have z1 := hp.mem_iff.mp (List.mem_of_find?_eq_some q)
      have z2 : z.n = x.row.next := by have := List.find?_some q; simpa using this
      rcases List.mem_append.mp z1 with z1 | z1
      · rcases h.due1 with rfl | ⟨y, rfl, hy⟩
        · cases z1
        · rw [List.mem_singleton.mp z1]; rfl
      · have := h.gt z z1
        omega
theorem filter_one {n : Nat} : ∀ {ws : List Wait}, (ws.map (·.n)).Nodup → (ws.filter fun w => decide (w.n = n)) = [] ∨ ∃ y, (ws.filter fun w => decide (w.n = n)) = [y] ∧ y.n = n
  | [], _ => .inl rfl
  | w :: ws, nd => by
    obtain ⟨n1, n2⟩ := List.nodup_cons.mp nd
    rw [List.filter_cons]
    by_cases h : w.n = n
    · rw [if_pos (decide_eq_true h)]
      have e : (ws.filter fun w => decide (w.n = n)) = [] := by
        rw [List.filter_eq_nil_iff]
        intro z hz q
        exact n1 (List.mem_map.mpr ⟨z, hz, (of_decide_eq_true q).trans h.symm⟩)
      rw [e]
      exact .inr ⟨w, rfl, h⟩
    · rw [if_neg (by simpa using h)]
      exact filter_one n2
theorem LoopR.step {c g clock : Nat} {r0 r : RwA} {cells : List (Str × Nat)} {book : List (Key × Ans)} {x : Hs} {y : Wait} {kv : List (L2.Key × PyData)} (h : LoopR c g r0 cells book r x [y]) (hl : LeftA r x [y] kv ∨ LeftB r x [y] kv) :
    (decS cells clock y).2 = (decS x.cells clock y).2 ∧ LoopR c g r0 (decS cells clock y).1 (book ++ [(⟨c, g, y.n⟩, (decS cells clock y).2)]) { r with next := y.n + 1, answers := r.answers ++ [(decS cells clock y).2], waits := r.waits.filter fun w => decide (w.n ≠ y.n) } (oneS c g clock x y) (dueW x.row.waiting (y.n + 1)) ∧
    LeftB { r with next := y.n + 1, answers := r.answers ++ [(decS cells clock y).2], waits := r.waits.filter fun w => decide (w.n ≠ y.n) } (oneS c g clock x y) (dueW x.row.waiting (y.n + 1)) (wKV (r.waits.filter fun w => decide (w.n ≠ y.n))) := by
  obtain ⟨d1, d2⟩ := decS_sim (clock := clock) (y := y) h.cl
  have hy : y.n = x.row.next := by
    rcases h.due1 with q | ⟨z, q, hz⟩
    · cases q
    · cases q; exact hz
  have p1 : (r.waits.filter fun w => decide (w.n ≠ y.n)).Perm x.row.waiting := by
    have all : (x.row.waiting.filter fun w => decide (w.n ≠ y.n)) = x.row.waiting := List.filter_eq_self.mpr fun w hw => decide_eq_true (by have := h.gt w hw; omega)
    rcases hl with ⟨_, hp⟩ | ⟨_, hp⟩
    · have := hp.filter fun w => decide (w.n ≠ y.n)
      rw [all] at this
      exact this
    · have := hp.filter fun w => decide (w.n ≠ y.n)
      rw [List.filter_append, all] at this
      simpa using this
  have p2 : x.row.waiting.Perm (dueW x.row.waiting (y.n + 1) ++ x.row.waiting.filter fun w => decide (y.n + 1 < w.n)) := by
    have e : (x.row.waiting.filter fun w => decide (y.n + 1 < w.n)) = x.row.waiting.filter fun w => !decide (w.n = y.n + 1) := List.filter_congr fun w hw => by
      have := h.gt w hw
      by_cases q : w.n = y.n + 1
      · simp [q]
      · have : y.n + 1 < w.n := by omega
        simp [q, this]
    rw [e]
    exact (List.filter_append_perm (fun w => decide (w.n = y.n + 1)) x.row.waiting).symm
  refine ⟨d1, ⟨h.a, h.aa, h.wa, h.pl, h.plx, rfl, h.floor, ?_, ?_, ?_, ?_, d2, ?_, decS_nd h.cnd, ?_, ?_, ?_⟩, rfl, p1.trans p2⟩
  · show r.floor ≤ y.n + 1
    have := h.fl; have := h.next; omega
  · show (r.answers ++ [_]).length = y.n + 1
    rw [List.length_append, h.len, h.next, hy]; rfl
  · show (r.answers ++ [_]).drop r.floor = _
    rw [List.drop_append_of_le_length (by rw [h.len]; exact h.fl), h.ans, d1]
    rfl
  · show book ++ [_] = x.book ++ [_]
    rw [h.bk, d1]
  · have := decS_len (cs := cells) (clock := clock) (y := y)
    have := h.clen
    rw [List.length_append]
    show (decS cells clock y).1.length ≤ book.length + 1
    omega
  · intro w hw
    obtain ⟨_, h2⟩ := List.mem_filter.mp (show w ∈ x.row.waiting.filter fun w => decide (y.n + 1 < w.n) from hw)
    exact of_decide_eq_true h2
  · show ((x.row.waiting.filter fun w => decide (y.n + 1 < w.n)).map (·.n)).Nodup
    exact (List.filter_sublist.map _).nodup h.nd
  · have := filter_one (n := y.n + 1) h.nd
    exact this
theorem askWait_mem' {S : Setting} {r : Row} {a : Ask} {y : Wait} (h : y ∈ askWait S r a) : y ∈ r.waiting ∨ (y = a.w ∧ r.next < y.n) := by
  unfold askWait at h
  split at h
  · exact .inl h
  · split at h
    · rename_i q
      have q := (of_decide_eq_true q).1
      have h := (List.mergeSort_perm _ _).mem_iff.mp h
      rcases List.mem_append.mp h with h | h
      · exact .inl h
      · have e := List.mem_singleton.mp h
        exact .inr ⟨e, by rw [e]; exact q⟩
    · exact .inl h
theorem askWait_nd {S : Setting} {r : Row} {a : Ask} (h : (r.waiting.map (·.n)).Nodup) : ((askWait S r a).map (·.n)).Nodup := by
  unfold askWait
  split
  · exact h
  · split
    · rename_i q
      have q := (of_decide_eq_true q).2.2
      have pm : (sortW (r.waiting ++ [a.w])).Perm (r.waiting ++ [a.w]) := List.mergeSort_perm _ _
      refine ((pm.map (fun z : Wait => z.n)).nodup_iff).mpr ?_
      rw [List.map_append, List.nodup_append]
      refine ⟨h, by simp, fun x hx y hy e => ?_⟩
      have hy : y = a.k.n := by simpa [Ask.w] using hy
      exact q (by rw [← hy, ← e]; exact hx)
    · exact h
/-! ### behind the loop -/
def loopO (o : OwA) (l : Nat) (ln : LnA) (i : Nat) (cells : List (Str × Nat)) (book : List (Key × Ans)) (tells : List (Key × Ans)) (r : RwA) : OwA :=
  { o with lanes := o.lanes.set l { ln with ls := ln.ls ++ tells.map fun t => Letter.tell t.1 t.2 }, cells := cells, book := book, rows := o.rows.set i r }
theorem tellAll_eq : ∀ (ts : List (Key × Ans)) (st : State) (l : Nat), l < st.lanes.length → tellAll st l ts = { st with lanes := st.lanes.set l (lane st l ++ ts.map fun t => Letter.tell t.1 t.2) }
  | [], st, l, h => by
    show st = _
    have e : st.lanes.set l (lane st l ++ []) = st.lanes := by
      rw [List.append_nil]
      unfold lane
      rw [List.getElem?_eq_getElem h, Option.getD_some]
      exact List.set_getElem_self h
    simp only [List.map_nil]
    rw [e]
  | t :: ts, st, l, h => by
    show tellAll (sentS st l (.tell t.1 t.2)) l ts = _
    rw [tellAll_eq ts _ l (by unfold sentS; simpa using h)]
    have e1 : lane (sentS st l (.tell t.1 t.2)) l = lane st l ++ [.tell t.1 t.2] := by
      unfold lane sentS
      simp only
      rw [List.getElem?_set_self h]
      rfl
    rw [e1]
    unfold sentS
    simp
/-- the own machine's rows: at place (c, g) r0 stands at i; what the state has there -/
structure RowAt (o : OwA) (st : State) (i : Nat) (c g : Nat) (r : RwA) : Prop where
  at_ : o.rows[i]? = some r
  pl : r.pl = (c, g)
  nd : (o.rows.map RwA.pl).Nodup
  off : ∀ c' g', (c', g') ≠ (c, g) → (findR o.rows c' g' = none ∧ rowAt st.house.rows c' g' = none) ∨ ∃ r q, findR o.rows c' g' = some r ∧ rowAt st.house.rows c' g' = some q ∧ SimR r q
  len : o.rows.length = (if (rowAt st.house.rows c g).isSome then st.house.rows.length else st.house.rows.length + 1)
theorem putRow_len' {rs : List Row} {r : Row} : (putRow rs r).length = if (rowAt rs r.c r.g).isSome then rs.length else rs.length + 1 := by
  have e : (rs.any fun x => decide (place x = place r)) = (rowAt rs r.c r.g).isSome := by
    unfold rowAt
    rw [Bool.eq_iff_iff, List.find?_isSome, List.any_eq_true]
    exact Iff.rfl
  unfold putRow
  rw [e]
  split <;> rename_i q <;> simp [q]
theorem Sim.asked {o : OwA} {st : State} {i c g l : Nat} {r0 r : RwA} {ln : LnA} {cells : List (Str × Nat)} {book : List (Key × Ans)} {x : Hs} (hc : o.clock = st.clock) (hf : Paired SimM o.folk st.callers) (hll : o.lanes.map (·.ls) = st.lanes) (hln : o.lanes[l]? = some ln) (ra : RowAt o st i c g r0) (lr : LoopR c g r0 cells book r x []) (hp : r.waits.Perm x.row.waiting) (nd : (st.house.rows.map place).Nodup) :
    Sim (loopO o l ln i cells book x.tells r) (tellAll { st with house := closedS st.house x } l x.tells) := by
  have hln' : st.lanes[l]? = some ln.ls := by rw [← hll, List.getElem?_map, hln]; rfl
  have hl : l < st.lanes.length := (List.getElem?_eq_some_iff.mp hln').1
  rw [tellAll_eq _ _ _ (by exact hl)]
  have epl : r.pl = r0.pl := by rw [lr.pl, ra.pl]
  have fnd : ∀ c' g', findR (o.rows.set i r) c' g' = if (c', g') = r0.pl then some r else findR o.rows c' g' := fun c' g' => find_set (key := RwA.pl) epl (c', g') ra.nd ra.at_
  refine ⟨hc, hf, ?_, lr.bk, fun y => ?_, lr.clen, fun c' g' => ?_, ?_, ?_⟩
  · show (o.lanes.set l _).map (·.ls) = st.lanes.set l (lane { st with house := closedS st.house x } l ++ _)
    rw [List.map_set, hll]
    congr 1
    show ln.ls ++ _ = (st.lanes[l]?.getD []) ++ _
    rw [hln']
    rfl
  · show getA cells y = getA (sortC x.cells) y
    rw [getA_sort lr.cnd, lr.cl]
  · show (findR (o.rows.set i r) c' g' = none ∧ rowAt (closedS st.house x).rows c' g' = none) ∨ ∃ r' q, findR (o.rows.set i r) c' g' = some r' ∧ rowAt (closedS st.house x).rows c' g' = some q ∧ SimR r' q
    rw [fnd, rowAt_closed nd, ra.pl, lr.plx]
    by_cases h : (c', g') = (c, g)
    · rw [if_pos h, if_pos h]
      have e1 := lr.pl
      have e2 := lr.plx
      unfold RwA.pl at e1
      unfold place at e2
      rw [Prod.mk.injEq] at e1 e2
      exact .inr ⟨r, x.row, rfl, rfl, e1.1.trans e2.1.symm, e1.2.trans e2.2.symm, lr.next, lr.floor, lr.len, lr.ans, hp⟩
    · rw [if_neg h, if_neg h]
      exact ra.off c' g' h
  · show ((o.rows.set i r).map RwA.pl).Nodup
    have e : (o.rows.set i r).map RwA.pl = o.rows.map RwA.pl := by
      rw [List.map_set, epl]
      have hi := (List.getElem?_eq_some_iff.mp ra.at_).1
      have e2 : (o.rows.map RwA.pl)[i]'(by rw [List.length_map]; exact hi) = r0.pl := by
        rw [List.getElem_map]
        rw [(List.getElem?_eq_some_iff.mp ra.at_).2]
      rw [← e2]
      exact List.set_getElem_self _
    rw [e]; exact ra.nd
  · show (o.rows.set i r).length = (sortR (putRow st.house.rows x.row)).length
    have e2 := lr.plx
    unfold place at e2
    rw [Prod.mk.injEq] at e2
    unfold sortR
    rw [List.length_set, List.length_mergeSort, putRow_len', ra.len, e2.1, e2.2]
end TC
set_option Elab.async false
set_option linter.all false
set_option maxRecDepth 100000
set_option maxHeartbeats 4000000
/-! The law's own machine: rules for asked. -/
namespace TC
open PySem L2
/-! ### rows.setdefault -/
def frow (c g : Nat) (a aa wa : Addr) : RwA := ⟨c, g, a, 0, 0, aa, [], wa, []⟩
theorem find_ix (c g : Nat) : ∀ rs : List RwA, (findR rs c g = none ∧ ((rs.map RwA.ky).findIdx? fun x => decide (x = [.inl (c : Int), .inl (g : Int)])) = none) ∨ ∃ i r, findR rs c g = some r ∧ rs[i]? = some r ∧ r.pl = (c, g) ∧ ((rs.map RwA.ky).findIdx? fun x => decide (x = [.inl (c : Int), .inl (g : Int)])) = some i
  | [] => .inl ⟨rfl, rfl⟩
  | r :: rs => by
    have hk : r.ky = [.inl (c : Int), .inl (g : Int)] ↔ r.pl = (c, g) := by
      simp only [RwA.ky, RwA.pl, List.cons.injEq, Sum.inl.injEq, and_true, Prod.mk.injEq]
      omega
    unfold findR
    rw [List.find?_cons, List.map_cons, List.findIdx?_cons]
    by_cases h : r.pl = (c, g)
    · refine .inr ⟨0, r, ?_, rfl, h, ?_⟩
      · simp [h]
      · simp [hk.mpr h]
    · have h2 : ¬ r.ky = [.inl (c : Int), .inl (g : Int)] := fun q => h (hk.mp q)
      simp only [h, h2, decide_false, Bool.false_eq_true, if_false]
      rcases find_ix c g rs with ⟨q1, q2⟩ | ⟨i, r', q1, q2, q3, q4⟩
      · exact .inl ⟨q1, by rw [q2]; rfl⟩
      · exact .inr ⟨i + 1, r', q1, by simpa using q2, q3, by rw [q4]; rfl⟩
theorem valV_zip_none {κ : Type} [DecidableEq κ] {k : κ} : ∀ {ks : List κ} {vs : List V}, (ks.findIdx? fun x => decide (x = k)) = none → valV (ks.zip vs) k = none
  | [], _, _ => rfl
  | x :: ks, [], _ => rfl
  | x :: ks, v :: vs, h => by
    rw [List.findIdx?_cons] at h
    by_cases e : x = k
    · simp [e] at h
    · simp only [e, decide_false, Bool.false_eq_true, if_false, Option.map_eq_none_iff] at h
      rw [List.zip_cons_cons, valV_neg (p := (x, v)) e]
      exact valV_zip_none h
section
variable {X : Cx} {ρ : List Sl} {a b c0 e f e0 x : Expr} {pos p p2 pos' apos cpos : Pos} {rest : List Stmt} {N : List Sl → Prop} {R : Sl → List Sl → Prop}
theorem sjs_setdRow {o : OwA} {c g j : Nat} {x : Str} (hu : X.A.units + 1 < cLine) (h0 : ρ[0]? = some (.w (.ref o.a) (OW X.K o))) (ho : EV X ρ e0 (.r (.ref o.ra))) (hk : ED X ρ e (ePair (c, g))) (hv : EN X ρ f (fun t => ∃ a aa wa, t = (frow c g a aa wa).t)) (hz : o.rows.length < sizeLine)
    (t1 : ∀ (i : Nat) (r : RwA), o.rows[i]? = some r → r.pl = (c, g) → findR o.rows c g = some r → SJs X (ρ.set j (.r (.ref r.a))) rest N R)
    (t2 : findR o.rows c g = none → ∀ a aa wa, SJs X ((ρ.set 0 (.w (.ref o.a) (OW X.K { o with rows := o.rows ++ [frow c g a aa wa] }))).set j (.r (.ref a))) rest N R)
    (hN : X.N.Nodup) (hi : X.N[j]? = some x := by rfl) (hx : Loc X.env.scope x := by first | exact Or.inl rfl | exact Or.inr rfl) (m : M2 X e0 "setdefault" apos e f cpos := by exact ⟨rfl, rfl, rfl, rfl⟩) (hs : swapsWith (.Call (.Attribute e0 "setdefault" apos) [e, f] [] cpos) (some (.Name x pos')) pos.line X.env = pure false := by rfl)
    (hf : X.fn x = true ∨ X.env.scope.names.lookup x = some .local := by first | exact .inl rfl | exact .inr rfl) : SJs X ρ (.Assign [.Name x pos'] (.Call (.Attribute e0 "setdefault" apos) [e, f] [] cpos) pos :: rest) N R :=
  sjs_cons (M := fun ρ2 => SJs X ρ2 rest N R) (fun B F σ H ev D k r => wS_of (ps_set hN hi hx (pe_dsetdT hu pe_w pe_w pe_w m) hs hf) (ho σ H ev.env _ fun w H1 e1 o1 => by
    cases (show w = .ref o.ra from o1)
    have hat : MT.at_ [5] o.t = some (.n o.ra (.dt (o.rows.map RwA.ky)) (o.rows.map RwA.t)) := rfl
    obtain ⟨f1, vs1, g1, _⟩ := At.mk [5] (hf_w 0 h0) hat σ H1 (ev.env.ex e1)
    refine ⟨o.ra, rfl, .inr ⟨_, .inl g1⟩, hk σ H1 (ev.env.ex e1) _ fun y H2 e2 o2 => hv σ H2 (ev.env.ex (e1.tr e2)) _ fun z H3 t e3 rp fr ndc ht => ?_⟩
    obtain ⟨pa, paa, pwa, rfl⟩ := ht
    have ex3 := (e1.tr e2).tr e3
    have ev3 := ev.grow ex3
    obtain ⟨b, rfl, hb⟩ := DT.key_at (ks := [.inl (c : Int), .inl (g : Int)]) (fun q => by cases q) (show DT X.K H2 y (keyDs [.inl (c : Int), .inl (g : Int)]) from o2)
    obtain ⟨f3, vs, g3, r3⟩ := At.mk [5] (hf_w 0 h0) hat σ H3 ev3.env
    have hl : (o.rows.map RwA.ky).length = vs.length := by rw [r3.len]; exact f3
    have rz : z = .ref pa := rp.un.1
    subst rz
    refine ⟨_, [.inl (c : Int), .inl (g : Int)], b, g3, rfl, e3 _ _ hb, by rw [List.length_zip, List.length_map]; omega, fun v hv' => ?_, fun hn => ?_⟩
    · rcases find_ix c g o.rows with ⟨_, q2⟩ | ⟨i, r', q1, q2, q3, q4⟩
      · rw [valV_zip_none q2] at hv'; cases hv'
      · obtain ⟨u, hu1, hu2⟩ := r3.at_ (i := i) (c := r'.t) (by rw [List.getElem?_map, q2]; rfl)
        have e4 := valV_zip q4 hu1 hl
        have hvu : u = v := Option.some.inj (e4.symm.trans hv')
        have ru : u = V.ref r'.a := hu2.un.1
        rw [← hvu, ru]
        exact k _ H3 _ (ev3.put (x := .r (.ref r'.a)) (Ex.rf H3) rfl) ex3.te (t1 i r' q2 q3 q1)
    · rcases find_ix c g o.rows with ⟨q1, q2⟩ | ⟨i, r', q1, q2, q3, q4⟩
      · have ok := (ev.env.sl 0 _ h0).2
        obtain ⟨u0, ru0⟩ := ok.1.sub hat
        obtain ⟨_, _, vs0, _, h20⟩ := ru0.un
        obtain ⟨na, nc⟩ := List.nodup_cons.mp (show (o.ra :: MT.fps (o.rows.map RwA.t)).Nodup from at_nd hat ok.2)
        have fr0 : ∀ b ∈ (frow c g pa paa pwa).t.fp, H b = none := fun b m => (e1.tr e2).back (fr b m)
        have ws := tree_ch (k' := .dt (o.rows.map RwA.ky ++ [[.inl (c : Int), .inl (g : Int)]])) (cs' := o.rows.map RwA.t ++ [(frow c g pa paa pwa).t]) (vs' := vs ++ [.ref pa]) ok hat ex3 (r3.app (.one rp)) (by simp [Knd.fits])
          (fps_app_nd nc ndc fun b m z => by
            obtain ⟨oo, ho⟩ := h20.dom b z
            rw [fr0 b m] at ho; cases ho) (fun b m => by
            rw [fps_app] at m
            rcases List.mem_append.mp m with m | m
            · exact .inl m
            · exact .inr (fr0 b (by simpa [MT.fps] using m)))
        have eob : (Knd.dt (o.rows.map RwA.ky ++ [[.inl (c : Int), .inl (g : Int)]])).ob (vs ++ [.ref pa]) = .dT (putK ((o.rows.map RwA.ky).zip vs) [.inl (c : Int), .inl (g : Int)] (.ref pa)) := by
          rw [putK_new _ hn]
          show HO.dT _ = HO.dT _
          rw [List.zip_append hl]
          rfl
        rw [eob] at ws
        obtain ⟨W', hW, h2, h3⟩ := ws.nw
        have eW : W' = OW X.K { o with rows := o.rows ++ [frow c g pa paa pwa] } := by
          rw [hW]
          show TWd X.K (.ref o.a) _ = TWd X.K (.ref o.a) _
          congr 1
          simp [MT.put, OwA.t, frow, RwA.ky]
        subst eW
        have ev4 := ev.mutW h0 ws.off ws.tk h2 h3
        exact k _ _ _ (ev4.put (x := .r (.ref pa)) (Ex.rf _) rfl) ws.tk (t2 q1 pa paa pwa)
      · obtain ⟨u, hu1, hu2⟩ := r3.at_ (i := i) (c := r'.t) (by rw [List.getElem?_map, q2]; rfl)
        rw [valV_zip q4 hu1 hl] at hn
        cases hn)) fun ρ2 m => m
/-! ### x, y = a, b, each told by a property -/
theorem ex_if {c : Expr} {k : Bool} {Φ : Sl → Prop} (h : TD X ρ c k) (h1 : k = true → EX X ρ a Φ) (h2 : k = false → EX X ρ b Φ) : EX X ρ (.IfExp c a b pos) Φ := fun σ H ev Q q =>
  wE_of (pe_ifExp pt_w pe_w pe_w) (h σ H ev _ fun H1 e1 => by
    cases k with
    | true => exact h1 rfl σ H1 (ev.ex e1) Q fun w H2 y e2 o2 hy => q w H2 y (e1.tr e2) (o2.ex e1 (Ex.rf H2)) hy
    | false => exact h2 rfl σ H1 (ev.ex e1) Q fun w H2 y e2 o2 hy => q w H2 y (e1.tr e2) (o2.ex e1 (Ex.rf H2)) hy)
theorem EX.imp {Φ Ψ : Sl → Prop} (h : EX X ρ e Φ) (i : ∀ x, Φ x → Ψ x) : EX X ρ e Ψ := fun σ H ev Q q => h σ H ev Q fun v H' x e1 o1 hx => q v H' x e1 o1 (i x hx)
theorem sjs_parx (i j : Nat) {x y : Str} {Φ1 Φ2 : Sl → Prop} {px py pt : Pos} {kt k2 pt2} (ha : EX X ρ a Φ1) (hb : EX X ρ b Φ2) (t : ∀ u v, Φ1 u → Φ2 v → SJs X ((ρ.set i u).set j v) rest N R) (hc : X.calm = true) (hN : X.N.Nodup) (hi : X.N[i]? = some x := by rfl) (hj : X.N[j]? = some y := by rfl) (hij : i ≠ j := by decide)
    (hx : X.env.scope.names.lookup x = some .local := by rfl) (hy : X.env.scope.names.lookup y = some .local := by rfl) (he : starEach [a, b] X.env = (false, eval a X.env) :: starEach [b] X.env := by rfl) (he2 : starEach [b] X.env = (false, eval b X.env) :: starEach [] X.env := by rfl)
    (hw : swappedStores [.Tuple [.Name x px, .Name y py] kt pt] (.Tuple [a, b] k2 pt2) X.env = pure (some [x, y]) := by rfl) (hs : swapsWithSole [.Tuple [.Name x px, .Name y py] kt pt] (.Tuple [a, b] k2 pt2) pos.line X.env = pure false := by rfl) :
    SJs X ρ (.Assign [.Tuple [.Name x px, .Name y py] kt pt] (.Tuple [a, b] k2 pt2) pos :: rest) N R :=
  sjs_cons (M := fun ρ' => SJs X ρ' rest N R) (fun B F σ H ev D k r => wS_of (ps_par hc hN hi hj hij hx hy (pa_cons pe_w (pa_cons pe_w pa_nil he2) he) hw hs) (ha σ H ev.env _ fun v1 H1 u e1 o1 h1 => hb σ H1 (ev.env.ex e1) _ fun v2 H2 v e2 o2 h2 =>
    ⟨v1, v2, rfl, k _ H2 _ ((ev.put e1 o1).put e2 o2) (e1.tr e2).te (t u v h1 h2)⟩)) fun ρ' m => m
/-- the name left: a dict of its own, or one of the tree -/
theorem left_ok {la : Addr} {kv : List (L2.Key × PyData)} {x : Str} (h : ρ[14]? = some (.w (.ref la) (TWd X.K (.ref la) (dN la kv))) ∨ (ρ[14]? = some (.r (.ref la)) ∧ AtD X ρ la kv)) (hN : X.N[14]? = some x := by rfl) (hv : Vis X.env.scope x := by first | exact Or.inl rfl | exact Or.inr (Or.inl rfl) | exact Or.inr (Or.inr rfl)) (hd : (x == ("__debug__" : Str)) = false := by decide) (hcd : (x == ("__classdict__" : Str)) = false := by decide) : EV X ρ (.Name x p) (.r (.ref la)) ∧ AtD X ρ la kv := by
  rcases h with h | ⟨h, q⟩
  · exact ⟨ev_w 14 h hN hv hd hcd, AtD.mk [] (hf_w 14 h) rfl⟩
  · exact ⟨ev_raw 14 h hN hv hd hcd, q⟩
end
/-! ### places in the tree behind the loop's turns -/
section
variable {o : OwA} {l i : Nat} {ln : LnA} {cells cells' : List (Str × Nat)} {book book' tells : List (Key × Ans)} {r r' r0 : RwA} {t : Key × Ans}
theorem lo_row (h : o.rows[i]? = some r0) : (loopO o l ln i cells book tells r).rows[i]? = some r := List.getElem?_set_self (List.getElem?_eq_some_iff.mp h).1
def LnA.more (ln : LnA) (tells : List (Key × Ans)) : LnA := { ln with ls := ln.ls ++ tells.map fun t => Letter.tell t.1 t.2 }
theorem lo_ln (h : o.lanes[l]? = some ln) : (loopO o l ln i cells book tells r).lanes[l]? = some (ln.more tells) := List.getElem?_set_self (List.getElem?_eq_some_iff.mp h).1
theorem put_lo_row (h : o.rows[i]? = some r0) (hk : r'.ky = r.ky) : MT.put r'.t [5, i] (loopO o l ln i cells book tells r).t = (loopO o l ln i cells book tells r').t := by
  have hi := (List.getElem?_eq_some_iff.mp h).1
  simp [MT.put, OwA.t, loopO, List.map_set, hi, hk]
theorem put_lo_ln (h : o.lanes[l]? = some ln) : MT.put (.n (ln.more tells).a .lst ((((ln.more tells).ls.map eLetter).map MT.d) ++ [.d (eTell t)])) [2, l] (loopO o l ln i cells book tells r).t = (loopO o l ln i cells book (tells ++ [t]) r).t := by
  have hi := (List.getElem?_eq_some_iff.mp h).1
  simp [MT.put, OwA.t, loopO, List.map_set, hi, LnA.t, LnA.more, eTell]
theorem put_lo_cells : MT.put (dN o.ca (cKV cells')) [3] (loopO o l ln i cells book tells r).t = (loopO o l ln i cells' book tells r).t := by
  simp [MT.put, OwA.t, loopO]
theorem put_lo_book {b : Key × Ans} : MT.put (.n o.ba .lst (((book.map eBook).map MT.d) ++ [.d (eBook b)])) [4] (loopO o l ln i cells book tells r).t = (loopO o l ln i cells (book ++ [b]) tells r).t := by
  simp [MT.put, OwA.t, loopO]
theorem put_lo_waits {ws : List Wait} (h : o.rows[i]? = some r0) : MT.put (dN r.wa (wKV ws)) [5, i, 3] (loopO o l ln i cells book tells r).t = (loopO o l ln i cells book tells { r with waits := ws }).t := by
  have hi := (List.getElem?_eq_some_iff.mp h).1
  simp [MT.put, OwA.t, loopO, List.map_set, hi, RwA.t, RwA.ky]
theorem put_lo_ans {a : Ans} (h : o.rows[i]? = some r0) : MT.put (.n r.aa .lst (((r.answers.map eAns).map MT.d) ++ [.d (eAns a)])) [5, i, 2] (loopO o l ln i cells book tells r).t = (loopO o l ln i cells book tells { r with answers := r.answers ++ [a] }).t := by
  have hi := (List.getElem?_eq_some_iff.mp h).1
  simp [MT.put, OwA.t, loopO, List.map_set, hi, RwA.t, RwA.ky]
theorem lo_self (h : o.rows[i]? = some r) (hl : o.lanes[l]? = some ln) : loopO o l ln i o.cells o.book [] r = o := by
  obtain ⟨hi, e⟩ := List.getElem?_eq_some_iff.mp h
  obtain ⟨hi2, e2⟩ := List.getElem?_eq_some_iff.mp hl
  unfold loopO
  subst e
  have e3 : ({ ln with ls := ln.ls ++ ([] : List (Key × Ans)).map fun t => Letter.tell t.1 t.2 } : LnA) = o.lanes[l] := by rw [e2]; simp
  rw [e3, List.set_getElem_self, List.set_getElem_self]
end
section
variable {X : Cx} {ρ : List Sl} {a b c e f o : Expr} {pos p p2 : Pos} {j0 : Nat} {w : OwA} {r : RwA} {i : Nat}
theorem ed_rnext (hu : X.A.units + 1 < cLine) (h : HF X ρ (OW X.K w).ok) (hm : w.rows[i]? = some r) (ho : EV X ρ o (.r (.ref r.a))) : ED X ρ (.Subscript o (.Constant (.str "next") j0 p2) pos) (dI r.next) := EV.eq (ev_key (k := .inr "next") (i := 0) (ks := rKeys) hu ho ed_str (At.mk [5, i] h (at_rw hm)) (by decide +kernel) rfl) rfl
theorem ed_rfloor (hu : X.A.units + 1 < cLine) (h : HF X ρ (OW X.K w).ok) (hm : w.rows[i]? = some r) (ho : EV X ρ o (.r (.ref r.a))) : ED X ρ (.Subscript o (.Constant (.str "floor") j0 p2) pos) (dI r.floor) := EV.eq (ev_key (k := .inr "floor") (i := 1) (ks := rKeys) hu ho ed_str (At.mk [5, i] h (at_rw hm)) (by decide +kernel) rfl) rfl
theorem ev_rans (hu : X.A.units + 1 < cLine) (h : HF X ρ (OW X.K w).ok) (hm : w.rows[i]? = some r) (ho : EV X ρ o (.r (.ref r.a))) : EV X ρ (.Subscript o (.Constant (.str "answers") j0 p2) pos) (.r (.ref r.aa)) := EV.eq (ev_key (k := .inr "answers") (i := 2) (ks := rKeys) hu ho ed_str (At.mk [5, i] h (at_rw hm)) (by decide +kernel) rfl) rfl
theorem ev_rwaits (hu : X.A.units + 1 < cLine) (h : HF X ρ (OW X.K w).ok) (hm : w.rows[i]? = some r) (ho : EV X ρ o (.r (.ref r.a))) : EV X ρ (.Subscript o (.Constant (.str "waits") j0 p2) pos) (.r (.ref r.wa)) := EV.eq (ev_key (k := .inr "waits") (i := 3) (ks := rKeys) hu ho ed_str (At.mk [5, i] h (at_rw hm)) (by decide +kernel) rfl) rfl
end
end TC
set_option Elab.async false
set_option linter.all false
set_option maxRecDepth 100000
set_option maxHeartbeats 4000000
/-! The law's own machine: asked. -/
namespace TC
open PySem L2
/-- behind the setdefault -/
def PreR (o : OwA) (c g : Nat) (o1 : OwA) (i : Nat) (r : RwA) : Prop := (o1 = o ∧ o.rows[i]? = some r ∧ r.pl = (c, g) ∧ findR o.rows c g = some r) ∨ (findR o.rows c g = none ∧ ∃ a aa wa, r = frow c g a aa wa ∧ o1 = { o with rows := o.rows ++ [frow c g a aa wa] } ∧ i = o.rows.length)
structure Pre1 (o : OwA) (st : State) (c g : Nat) (o1 : OwA) (i : Nat) (r : RwA) : Prop where
  a : o1.a = o.a
  clock : o1.clock = st.clock
  folk : Paired SimM o1.folk st.callers
  lanes : o1.lanes = o.lanes
  book : o1.book = st.house.book
  cells : ∀ x, getA o1.cells x = getA st.house.cells x
  clen : o1.cells.length ≤ o1.book.length
  ra : RowAt o1 st i c g r
  sr : SimR r (rowD st.house.rows c g)
theorem pre1_of {o : OwA} {st : State} {c g i : Nat} {o1 : OwA} {r : RwA} (sim : Sim o st) (h : PreR o c g o1 i r) : Pre1 o st c g o1 i r := by
  rcases h with ⟨rfl, h1, h2, h3⟩ | ⟨h1, a, aa, wa, rfl, rfl, rfl⟩
  · rcases sim.rows c g with ⟨q1, q2⟩ | ⟨r', q, q1, q2, q3⟩
    · rw [h3] at q1; cases q1
    · rw [h3] at q1
      cases q1
      refine ⟨rfl, sim.clock, sim.folk, rfl, sim.book, sim.cells, sim.clen, ⟨h1, h2, sim.rnd, fun c' g' _ => sim.rows c' g', by rw [q2]; exact sim.rlen⟩, ?_⟩
      unfold rowD
      rw [q2]
      exact q3
  · have h0 : rowAt st.house.rows c g = none := by
      rcases sim.rows c g with ⟨q1, q2⟩ | ⟨r', q, q1, q2, q3⟩
      · exact q2
      · rw [h1] at q1; cases q1
    refine ⟨rfl, sim.clock, sim.folk, rfl, sim.book, sim.cells, sim.clen, ⟨by simp, rfl, ?_, fun c' g' hne => ?_, ?_⟩, ?_⟩
    · rw [List.map_append, List.nodup_append]
      refine ⟨sim.rnd, by simp, fun x hx y hy e => ?_⟩
      obtain ⟨z, hz, rfl⟩ := List.mem_map.mp hx
      have hy : y = (c, g) := by simpa [frow, RwA.pl] using hy
      unfold findR at h1
      rw [List.find?_eq_none] at h1
      exact h1 z hz (decide_eq_true (e.trans hy))
    · have e : findR (o.rows ++ [frow c g a aa wa]) c' g' = findR o.rows c' g' := by
        unfold findR
        rw [List.find?_append]
        have : decide ((frow c g a aa wa).pl = (c', g')) = false := decide_eq_false fun z => hne (z ▸ rfl)
        simp [this]
      rw [e]
      exact sim.rows c' g'
    · rw [h0]
      show (o.rows ++ [_]).length = st.house.rows.length + 1
      rw [List.length_append, sim.rlen]
      rfl
    · unfold rowD
      rw [h0]
      exact ⟨rfl, rfl, rfl, rfl, rfl, rfl, .nil⟩
section
variable {X : Cx} {ρ : List Sl} {e f e0 : Expr} {pos p p2 pos' apos cpos : Pos} {rest : List Stmt} {N : List Sl → Prop} {R : Sl → List Sl → Prop}
theorem sjs_setdRow1 {o : OwA} {c g j : Nat} {x : Str} (hu : X.A.units + 1 < cLine) (h0 : ρ[0]? = some (.w (.ref o.a) (OW X.K o))) (ho : EV X ρ e0 (.r (.ref o.ra))) (hk : ED X ρ e (ePair (c, g))) (hv : EN X ρ f (fun t => ∃ a aa wa, t = (frow c g a aa wa).t)) (hz : o.rows.length < sizeLine)
    (t : ∀ (o1 : OwA) (i : Nat) (r : RwA), PreR o c g o1 i r → SJs X ((ρ.set 0 (.w (.ref o.a) (OW X.K o1))).set j (.r (.ref r.a))) rest N R)
    (hN : X.N.Nodup) (hi : X.N[j]? = some x := by rfl) (hx : Loc X.env.scope x := by first | exact Or.inl rfl | exact Or.inr rfl) (m : M2 X e0 "setdefault" apos e f cpos := by exact ⟨rfl, rfl, rfl, rfl⟩) (hs : swapsWith (.Call (.Attribute e0 "setdefault" apos) [e, f] [] cpos) (some (.Name x pos')) pos.line X.env = pure false := by rfl)
    (hf : X.fn x = true ∨ X.env.scope.names.lookup x = some .local := by first | exact .inl rfl | exact .inr rfl) : SJs X ρ (.Assign [.Name x pos'] (.Call (.Attribute e0 "setdefault" apos) [e, f] [] cpos) pos :: rest) N R :=
  sjs_setdRow hu h0 ho hk hv hz (fun i r h1 h2 h3 => by
    have z := t o i r (.inl ⟨rfl, h1, h2, h3⟩)
    obtain ⟨hl, he⟩ := List.getElem?_eq_some_iff.mp h0
    rw [← he, List.set_getElem_self] at z
    exact z) (fun h1 a aa wa => t _ _ (frow c g a aa wa) (.inr ⟨h1, a, aa, wa, rfl, rfl, rfl⟩)) hN hi hx m hs hf
theorem left_ok2 {s14 : Sl} {la : Addr} {kv : List (L2.Key × PyData)} {v : V} {o : OwA} {l i : Nat} {ln : LnA} {cells : List (Str × Nat)} {book tells : List (Key × Ans)} {r r0 : RwA} {x : Str} (h14 : ρ[14]? = some s14) (h0 : ρ[0]? = some (.w v (TWd X.K v (loopO o l ln i cells book tells r).t))) (hr0 : o.rows[i]? = some r0)
    (h : s14 = .w (.ref la) (TWd X.K (.ref la) (dN la kv)) ∨ (s14 = .r (.ref la) ∧ la = r.wa ∧ kv = wKV r.waits)) (hN : X.N[14]? = some x := by rfl) (hv : Vis X.env.scope x := by first | exact Or.inl rfl | exact Or.inr (Or.inl rfl) | exact Or.inr (Or.inr rfl)) (hd : (x == ("__debug__" : Str)) = false := by decide) (hcd : (x == ("__classdict__" : Str)) = false := by decide) : EV X ρ (.Name x p) (.r (.ref la)) ∧ AtD X ρ la kv :=
  left_ok (h.imp (fun z => by rw [h14, z]) fun ⟨z1, z2, z3⟩ => ⟨by rw [h14, z1], by
    subst z2 z3
    exact AtD.mk [5, i, 3] (hf_w 0 h0) (at_rwt (lo_row hr0))⟩) hN hv hd hcd
end
theorem setW {r : RwA} : ({ r with waits := r.waits } : RwA) = r := rfl
section
variable {P : Program} {w : World} {K : PySem.W.Frag} {mg : Str → Option Value} {base : Heap}
theorem sc_lasked : FnScope ["_law_own", "_law_deal_here", "_law_lane", "_law_letter", "_law_word", "_law_who", "_law_g", "_law_n", "_law_cell", "_law_number", "_law_last", "_law_heard_here", "_law_row", "_law_found", "_law_left", "_law_reply"] ["_law_own", "_law_deal_here", "_law_lane", "_law_letter"] (defScope (top 82)) := ⟨rfl, rfl, rfl, by decide +kernel, rfl, by decide +kernel, by decide +kernel⟩
def R_lasked (K : PySem.W.Frag) (xs : List Sl) (Q : Sl → Wld → Prop) : Prop := ∃ (S : Setting) (st : State) (o : OwA) (l : Nat) (a : Ask) (ln : LnA), xs = [.w (.ref o.a) (OW K o), .d (eSetting S), .d (dI l), .d (eLetter a.letter)] ∧ WfS S ∧ Sim o st ∧ Wf S st ∧ Szs st ∧ LetOk st a.letter ∧ o.lanes[l]? = some ln ∧
  ∀ (d : PyData) (o' : OwA), o'.a = o.a → Sim o' (tellAll { st with house := closedS st.house (askS S st.house st.clock a) } l (askS S st.house st.clock a).tells) → Q (.d d) (OW K o')
theorem c_lasked (T : Bl mg) (O : Own K mg "_law_asked" (defD "_law_asked" (top 82)) []) : Cal P w K mg base 1 "_law_asked" (MSp K (R_lasked K)) [] := by
  refine cal_mut O sc_lasked ?_ (by decide) (fun _ _ _ _ _ _ us hl => match us, hl with | [_, _, _, _], _ => rfl) ?_
  · rintro xs Q ⟨S, st, o, l, a, ln, rfl, _⟩; rfl
  · rintro f cdv A outer s H E hr v W xs Q ⟨S, st, o, l, a, ln, e, ws, sim, wf, zs, ok, hln0, hQ⟩
    cases e
    have hsz := sz
    have nd := sc_lasked.nd
    have hu := roomU hr
    have hu1 : (A.deeper (PyProof.Rows.envOfC "_law_asked" (defScope (top 82)) s.heap.objs.size f cdv)).units + 1 < cLine := by omega
    obtain ⟨rk1, rk2⟩ := askRow_ok wf ok
    have hrl : o.rows.length ≤ 100000 := by rw [sim.rlen]; exact zs.rows
    refine sjs_asg (ed_var 3) (gd_tup rfl (gds_cons (gd_name 4 nd) (gds_cons (gd_tup rfl (gds_cons (gd_name 5 nd) (gds_cons (gd_name 6 nd) (gds_cons (gd_name 7 nd) gds_nil))) rfl) (gds_cons (gd_name 8 nd) (gds_cons (gd_name 9 nd) (gds_cons (gd_name 10 nd) (gds_cons (gd_name 11 nd) gds_nil)))))) rfl) ?_
    refine SJs.to [.w (.ref o.a) (OW K o), .d (eSetting S), .d (dI l), .d (eLetter a.letter), .d (.str "ask"), .d (dI a.k.c), .d (dI a.k.g), .d (dI a.k.n), .d (.str a.cell), .d (dI a.number), .d (dI a.last), .d (dI a.heard), .no, .no, .no, .no] ?_
    refine sjs_setdRow1 (c := a.k.c) (g := a.k.g) (j := 12) hu1 rfl (ev_orows hu1 (hf_w 0) (ev_w 0)) (ed_tup (ad_consd (ed_var 5) (ad_consd (ed_var 6) ad_nild))) (EN.imp (en_disp (dn_cons (ky := .inr "next") ed_str (en_d (d := dI 0) ed_k) (dn_cons (ky := .inr "floor") ed_str (en_d (d := dI 0) ed_k) (dn_cons (ky := .inr "answers") ed_str (en_l (ds := []) (ev_lst ad_nild)) (dn_cons (ky := .inr "waits") ed_str en_dk dn_nil))))) (fun t ht => ?_)) (by omega) (fun o1 i r0 hpre => ?_) nd
    · obtain ⟨q, cs, ⟨c1, r1, rfl, rfl, c2, r2, rfl, rfl, c3, r3, rfl, ⟨q3, rfl⟩, c4, r4, rfl, ⟨q4, rfl⟩, rfl⟩, rfl⟩ := ht
      exact ⟨q, q3, q4, rfl⟩
    have pre := pre1_of sim hpre
    have hln : o1.lanes[l]? = some ln := by rw [pre.lanes]; exact hln0
    have lns : ln.ls.length ≤ 100000 := zs.lanes ln.ls (List.mem_of_getElem? (i := l) (by rw [← sim.lanes, List.getElem?_map, hln0]; rfl))
    have hr0 := pre.ra.at_
    obtain ⟨sc, sg, sn, sf, sl, sa, sw⟩ := pre.sr
    -- the row as the program has it
    generalize har : askRow st.house a = ar at rk1 rk2
    have a1 : ar.next = r0.next := by rw [← har, sn]; rfl
    have a2 : ar.floor = max r0.floor a.heard := by rw [← har, sf]; rfl
    have a3 : ar.waiting = (rowD st.house.rows a.k.c a.k.g).waiting := by rw [← har]; rfl
    have a4 : ar.answers = r0.answers.drop (max r0.floor a.heard) := by
      rw [← har]
      show (rowD st.house.rows a.k.c a.k.g).answers.drop (a.heard - (rowD st.house.rows a.k.c a.k.g).floor) = _
      rw [← sa, ← sf, List.drop_drop]
      congr 1
      omega
    have hnx : r0.next ≤ 4 := by
      rw [sn]
      rcases rowD_mem (rs := st.house.rows) (c := a.k.c) (g := a.k.g) with h | h
      · have q := (wf.rows _ h).nx
        have q2 : (grpD st (rowD st.house.rows a.k.c a.k.g).c (rowD st.house.rows a.k.c a.k.g).g).calls.length ≤ 4 := by
          unfold grpD
          cases e : grp st (rowD st.house.rows a.k.c a.k.g).c (rowD st.house.rows a.k.c a.k.g).g with
          | none => exact Nat.zero_le _
          | some G =>
            have g1 := (wf.grp _ _ G e).len
            obtain ⟨l', hl'⟩ := wf.shp.grpS_ e
            have g2 := ws.grp hl'
            unfold lenS at g1
            rw [hl'] at g1
            exact Nat.le_trans g1 g2
        omega
      · rw [h]; exact Nat.zero_le _
    have hw0 : (rowD st.house.rows a.k.c a.k.g).waiting.length ≤ 100000 := zs.waitD _ _
    have hgt0 : ∀ y ∈ ar.waiting, ar.next < y.n := by
      rw [a3, a1, sn]
      intro y hy
      rcases rowD_mem (rs := st.house.rows) (c := a.k.c) (g := a.k.g) with h | h
      · exact ((wf.rows _ h).wt y hy).2.1
      · rw [h] at hy; cases hy
    have hnd0 : (ar.waiting.map (·.n)).Nodup := by
      rw [a3]
      rcases rowD_mem (rs := st.house.rows) (c := a.k.c) (g := a.k.g) with h | h
      · exact (wf.rows _ h).wn
      · rw [h]; exact List.nodup_nil
    rw [← pre.a]
    refine SJs.to [.w (.ref o1.a) (OW K (loopO o1 l ln i o1.cells o1.book [] r0)), .d (eSetting S), .d (dI l), .d (eLetter a.letter), .d (.str "ask"), .d (dI a.k.c), .d (dI a.k.g), .d (dI a.k.n), .d (.str a.cell), .d (dI a.number), .d (dI a.last), .d (dI a.heard), .r (.ref r0.a), .no, .no, .no] ?_ (by rw [lo_self hr0 hln]; rfl)
    -- the floor
    refine sjs_tkey 0 (pth := [5, i]) (ks := rKeys) (k := .inr "floor") (j := 1) (Φ := (· = .d (dI (max r0.floor a.heard)))) hu1 rfl (ev_raw 12) ed_str (en_d (ed_is (ed_max T.max rfl (i := (r0.floor : Int)) (j := (a.heard : Int)) (ed_rfloor hu1 (hf_w 0) (lo_row hr0) (ev_raw 12)) (ed_var 11)) (by rw [maxN]; rfl))) (at_rw (lo_row hr0)) (fun z hz => ?_) (by decide +kernel)
    subst hz
    rw [show MT.put (.n r0.a (.dk rKeys) ([.d (dI r0.next), .d (dI r0.floor), .n r0.aa .lst ((r0.answers.map eAns).map MT.d), dN r0.wa (wKV r0.waits)].set 1 (.d (dI (max r0.floor a.heard))))) [5, i] (loopO o1 l ln i o1.cells o1.book [] r0).t = _ from put_lo_row (r' := { r0 with floor := max r0.floor a.heard }) hr0 rfl]
    generalize hr1 : ({ r0 with floor := max r0.floor a.heard } : RwA) = r1
    have b1 : r1.next = ar.next := by rw [← hr1, a1]
    have b2 : r1.floor = ar.floor := by rw [← hr1, a2]
    have b3 : r1.answers = r0.answers := by rw [← hr1]
    have b4 : r1.waits = r0.waits := by rw [← hr1]
    have b5 : r1.a = r0.a := by rw [← hr1]
    have b6 : r1.wa = r0.wa := by rw [← hr1]
    have b7 : r1.aa = r0.aa := by rw [← hr1]
    have b8 : r1.pl = r0.pl := by rw [← hr1]; rfl
    rw [← b5]
    refine SJs.to [.w (.ref o1.a) (OW K (loopO o1 l ln i o1.cells o1.book [] r1)), .d (eSetting S), .d (dI l), .d (eLetter a.letter), .d (.str "ask"), .d (dI a.k.c), .d (dI a.k.g), .d (dI a.k.n), .d (.str a.cell), .d (dI a.number), .d (dI a.last), .d (dI a.heard), .r (.ref r1.a), .no, .no, .no] ?_
    -- an old one
    refine sjs_cons (M := fun ρ => ρ = [.w (.ref o1.a) (OW K (loopO o1 l ln i o1.cells o1.book (askTells ar a.k) r1)), .d (eSetting S), .d (dI l), .d (eLetter a.letter), .d (.str "ask"), .d (dI a.k.c), .d (dI a.k.g), .d (dI a.k.n), .d (.str a.cell), .d (dI a.number), .d (dI a.last), .d (dI a.heard), .r (.ref r1.a), .no, .no, .no])
      (sj_if (k := askOld ar a.k.n) (td_is (td_chain op_le op_lt (ed_rfloor hu1 (hf_w 0) (lo_row hr0) (ev_raw 12)) (ed_var 7) (ed_rnext hu1 (hf_w 0) (lo_row hr0) (ev_raw 12))) ?_) (fun h => ?_) fun h => ?_) ?_
    · unfold askOld
      rw [← Bool.decide_and]
      exact decide_eq_decide.mpr (by omega)
    · have h2 := of_decide_eq_true h
      have hlt : a.k.n < r1.answers.length := by rw [b3, sl]; omega
      have hx : ar.answers[a.k.n - ar.floor]? = some (r1.answers[a.k.n]'hlt) := by
        rw [a4, List.getElem?_drop, ← a2, ← b3]
        have e : ar.floor + (a.k.n - ar.floor) = a.k.n := by omega
        rw [e]
        exact List.getElem?_eq_getElem hlt
      have et : askTells ar a.k = [(a.k, r1.answers[a.k.n]'hlt)] := by unfold askTells; rw [h, hx]; rfl
      refine sjs_tapp 0 (pth := [2, l]) rfl (ev_oln (hf_w 0) (lo_ln hln) (ev_olanes hu1 (hf_w 0) (ev_w 0)) (ed_var 2)) (en_d (d := eTell (a.k, r1.answers[a.k.n]'hlt)) (ed_tup (ad_consd ed_str (ad_consd (ed_tup (ad_consd (ed_var 5) (ad_consd (ed_var 6) (ad_consd (ed_var 7) ad_nild)))) (ad_consd (EV.eq (ev_idx (t := r1.aa) (cs := (r1.answers.map eAns).map MT.d) (n := a.k.n) (x := .d (eAns (r1.answers[a.k.n]'hlt))) (ev_rans hu1 (hf_w 0) (lo_row hr0) (ev_raw 12)) (ed_var 7) (At.mk [5, i, 2] (hf_w 0) (at_ra (lo_row hr0))) (by rw [List.getElem?_map, List.getElem?_map, List.getElem?_eq_getElem hlt]; rfl)) rfl) ad_nild))))) (at_ln (lo_ln hln)) (by rw [List.length_map, List.length_map]; show (ln.ls ++ []).length < sizeLine; rw [List.append_nil]; omega) (fun z hz => ?_)
      subst hz
      rw [put_lo_ln hln, et]
      exact sjs_nil rfl
    · have et : askTells ar a.k = [] := by unfold askTells; rw [h]; rfl
      rw [et]
      exact sjs_nil rfl
    rintro ρ rfl
    -- one that waits
    have ltells : (askTells ar a.k).length ≤ 1 := by unfold askTells; split <;> simp
    refine sjs_cons (M := fun ρ => ∃ W2 : List Wait, W2.Perm (askWait S ar a) ∧ ρ = [.w (.ref o1.a) (OW K (loopO o1 l ln i o1.cells o1.book (askTells ar a.k) { r1 with waits := W2 })), .d (eSetting S), .d (dI l), .d (eLetter a.letter), .d (.str "ask"), .d (dI a.k.c), .d (dI a.k.g), .d (dI a.k.n), .d (.str a.cell), .d (dI a.number), .d (dI a.last), .d (dI a.heard), .r (.ref r1.a), .no, .no, .no])
      (sj_if (k := decide ((r1.next : Int) < (a.k.n : Int)) && decide ((a.k.n : Int) < (r1.floor : Int) + (S.window : Int))) (td_chain op_lt op_lt (ed_rnext hu1 (hf_w 0) (lo_row hr0) (ev_raw 12)) (ed_var 7) (ed_add (ed_rfloor hu1 (hf_w 0) (lo_row hr0) (ev_raw 12)) (ed_ic (ed_var 1) rfl))) (fun h => ?_) fun h => ?_) ?_
    · obtain ⟨h1, h2⟩ := Bool.and_eq_true_iff.mp h
      have h1 := of_decide_eq_true h1
      have h2 := of_decide_eq_true h2
      have hwl : r1.waits.length ≤ 100000 := by rw [b4, sw.length_eq]; exact hw0
      refine sjs_dsetd 0 (pth := [5, i, 3]) (q := r1.wa) (kvs := wKV r1.waits) (k := .inl (a.k.n : Int)) (d := eW3 a.w) rfl (ev_rwaits hu1 (hf_w 0) (lo_row hr0) (ev_raw 12)) (ed_var 7) (ed_tup (ad_consd (ed_var 8) (ad_consd (ed_var 9) (ad_consd (ed_var 10) ad_nild)))) (at_rwt (lo_row hr0)) (by unfold wKV; rw [List.length_map]; omega) (put_lo_waits (ws := r1.waits) hr0) ?_
      rw [show setdD (wKV r1.waits) (.inl (a.k.n : Int)) (eW3 a.w) = _ from setdD_waits r1.waits a.w, put_lo_waits hr0]
      refine sjs_nil ⟨_, ?_, rfl⟩
      have e0 : askOld ar a.k.n = false := decide_eq_false fun q => by omega
      unfold askWait
      rw [e0]
      have pw : r1.waits.Perm ar.waiting := by rw [b4, a3]; exact sw
      have em : a.w.n ∈ r1.waits.map (·.n) ↔ a.k.n ∈ ar.waiting.map (·.n) := (pw.map (·.n)).mem_iff
      by_cases hmem : a.k.n ∈ ar.waiting.map (·.n)
      · rw [if_pos (em.mpr hmem)]
        have e1 : askKeep S ar a.k.n = false := decide_eq_false fun q => q.2.2 hmem
        rw [e1]
        exact pw
      · rw [if_neg (fun q => hmem (em.mp q))]
        have e1 : askKeep S ar a.k.n = true := decide_eq_true ⟨by omega, by omega, hmem⟩
        rw [e1]
        exact (pw.append_right _).trans (List.mergeSort_perm _ _).symm
    · refine sjs_nil ⟨r1.waits, ?_, rfl⟩
      have pw : r1.waits.Perm ar.waiting := by rw [b4, a3]; exact sw
      unfold askWait
      split
      · exact pw
      · have e1 : askKeep S ar a.k.n = false := decide_eq_false fun q => by
          have : ¬ ((r1.next : Int) < (a.k.n : Int) ∧ (a.k.n : Int) < (r1.floor : Int) + (S.window : Int)) := by
            rw [← Bool.decide_and] at h
            exact of_decide_eq_false h
          omega
        rw [e1]
        exact pw
    rintro ρ ⟨W2, pW2, rfl⟩
    generalize hr2 : ({ r1 with waits := W2 } : RwA) = r2
    have c1 : r2.next = ar.next := by rw [← hr2, b1]
    have c2 : r2.a = r1.a := by rw [← hr2]
    rw [← c2]
    have hwl : (askWait S ar a).length ≤ 100001 := by
      have e2 := askWait_len (S := S) (r := ar) (a := a)
      rw [a3] at e2
      omega
    have hX : askS S st.house st.clock a = runS a.k.c a.k.g st.clock ((askWait S ar a).length + 1) ⟨st.house.cells, st.house.book, askTells ar a.k, [], { ar with waiting := askWait S ar a }⟩ (if a.k.n = ar.next then [a.w] else []) := by
      unfold askS
      rw [har]
    -- what is due
    refine sjs_parx 13 14 (Φ1 := (· = .l [])) (Φ2 := fun x => ∃ q, x = .w (.ref q) (TWd K (.ref q) (dN q ((if a.k.n = ar.next then [a.w] else []).map fun y => (.inl (y.n : Int), eW3 y))))) (ex_ev (ev_lst ad_nild) rfl) (ex_if (k := decide (a.k.n = ar.next)) (td_is (td_eqn (ed_var 7) (ed_rnext hu1 (hf_w 0) (lo_row hr0) (ev_raw 12))) (by rw [c1])) (fun h => ?_) fun h => ?_) (fun u v hu' hv => ?_) rfl nd
    · rw [if_pos (of_decide_eq_true h)]
      refine EX.imp (ex_en (EN.imp (Φ' := fun t => ∃ q, t = dN q [(.inl (a.k.n : Int), eW3 a.w)]) (en_disp (dn_cons (ky := .inl (a.k.n : Int)) (ed_var 7) (en_d (d := eW3 a.w) (ed_tup (ad_consd (ed_var 8) (ad_consd (ed_var 9) (ad_consd (ed_var 10) ad_nild))))) dn_nil) rfl rfl (by intro q; cases q) (by decide) (by simp) (by simp)) (fun t ht => ?_)) (fun t ht => ?_)) (fun y hy => ?_)
      · obtain ⟨q, cs, ⟨c1, r1, rfl, rfl, rfl⟩, rfl⟩ := ht
        exact ⟨q, rfl⟩
      · obtain ⟨q, rfl⟩ := ht
        exact ⟨q, _, _, rfl⟩
      · obtain ⟨q, k, cs, ⟨q2, e⟩, rfl⟩ := hy
        unfold dN at e
        injection e with e1 e2 e3
        subst e1 e2 e3
        exact ⟨q, rfl⟩
    · rw [if_neg (of_decide_eq_false h)]
      refine EX.imp (ex_en en_dk (fun t ht => ?_)) (fun y hy => ?_)
      · obtain ⟨q, rfl⟩ := ht
        exact ⟨q, _, _, rfl⟩
      · obtain ⟨q, k, cs, ⟨q2, e⟩, rfl⟩ := hy
        injection e with e1 e2 e3
        subst e1 e2 e3
        exact ⟨q, rfl⟩
    subst hu'
    obtain ⟨la, rfl⟩ := hv
    -- the loop
    refine sjs_cons (sj_while (fun m ρ => ∃ (x : Hs) (due : List Wait) (cells : List (Str × Nat)) (book : List (Key × Ans)) (r : RwA) (ks : List PyData) (la : Addr) (kv : List (L2.Key × PyData)) (s7 s8 s9 s10 s14 s15 : Sl),
          runS a.k.c a.k.g st.clock m x due = askS S st.house st.clock a ∧ (due ≠ [] → x.row.waiting.length < m) ∧ (book.length + m ≤ 300000 ∧ x.tells.length + m ≤ 300000 ∧ r.answers.length + m ≤ 300000 ∧ ks.length + m ≤ 300000) ∧ LoopR a.k.c a.k.g r0 cells book r x due ∧
          ((LeftA r x due kv ∧ s14 = .w (.ref la) (TWd K (.ref la) (dN la kv))) ∨ (LeftB r x due kv ∧ s14 = .r (.ref la) ∧ la = r.wa)) ∧
          ρ = [.w (.ref o1.a) (OW K (loopO o1 l ln i cells book x.tells r)), .d (eSetting S), .d (dI l), .d (eLetter a.letter), .d (.str "ask"), .d (dI a.k.c), .d (dI a.k.g), s7, s8, s9, s10, .d (dI a.heard), .r (.ref r0.a), .l ks, s14, s15])
        (N := fun ρ => ∃ (x : Hs) (cells : List (Str × Nat)) (book : List (Key × Ans)) (r : RwA) (ks : List PyData) (s7 s8 s9 s10 s14 s15 : Sl), x = askS S st.house st.clock a ∧ LoopR a.k.c a.k.g r0 cells book r x [] ∧ r.waits.Perm x.row.waiting ∧
          ρ = [.w (.ref o1.a) (OW K (loopO o1 l ln i cells book x.tells r)), .d (eSetting S), .d (dI l), .d (eLetter a.letter), .d (.str "ask"), .d (dI a.k.c), .d (dI a.k.g), s7, s8, s9, s10, .d (dI a.heard), .r (.ref r0.a), .l ks, s14, s15]) (m0 := (askWait S ar a).length + 1) ?_ ?_ PassesOwn.never) ?_
    · refine ⟨_, _, o1.cells, o1.book, r2, [], la, _, .d (dI a.k.n), .d (.str a.cell), .d (dI a.number), .d (dI a.last), _, .no, hX.symm, fun _ => Nat.lt_succ_self _, ?_, ?_, .inl ⟨⟨rfl, ?_⟩, rfl⟩, ?_⟩
      · have z1 := zs.book
        rw [← pre.book] at z1
        have z2 : r2.answers.length ≤ 4 := by rw [← hr2]; show r1.answers.length ≤ 4; rw [b3, sl]; exact hnx
        refine ⟨by omega, by simp only; omega, by omega, by simp only [List.length_nil]; omega⟩
      · have plx : (rowD st.house.rows a.k.c a.k.g).c = a.k.c ∧ (rowD st.house.rows a.k.c a.k.g).g = a.k.g := by
          have := place_rowD st.house.rows a.k.c a.k.g
          unfold place at this
          rw [Prod.mk.injEq] at this
          exact this
        refine ⟨by rw [← hr2]; exact b5, by rw [← hr2]; exact b7, by rw [← hr2]; exact b6, by rw [← hr2]; exact b8.trans pre.ra.pl, ?_, c1, by rw [← hr2]; exact b2, by rw [← hr2]; show r1.floor ≤ r1.next; omega, by rw [← hr2]; show r1.answers.length = r1.next; rw [b3, sl, b1, a1], ?_, pre.book, pre.cells, pre.clen, wf.cnd, fun y hy => ?_, ?_, ?_⟩
        · show place { ar with waiting := askWait S ar a } = _
          rw [← har]
          show (_, _) = _
          rw [Prod.mk.injEq]
          exact plx
        · rw [← hr2]
          show r1.answers.drop r1.floor = ar.answers
          rw [b3, b2, a4, a2]
        · show ar.next < y.n
          rcases askWait_mem' hy with q | ⟨rfl, q⟩
          · exact hgt0 y q
          · exact q
        · exact askWait_nd hnd0
        · by_cases q : a.k.n = ar.next
          · rw [if_pos q]; exact .inr ⟨a.w, rfl, q⟩
          · rw [if_neg q]; exact .inl rfl
      · rw [← hr2]; exact pW2
      · have : r2.a = r0.a := by rw [← hr2]; exact b5
        rw [this]; rfl
    · rintro m ρ ⟨x, due, cells, book, r, ks, la, kv, s7, s8, s9, s10, s14, s15, hrun, hlt, ⟨z1, z2, z3, z4⟩, lr, hleft, rfl⟩
      have hl' : LeftA r x due kv ∨ LeftB r x due kv := hleft.imp (fun q => q.1) fun q => q.1
      have hs14 : s14 = .w (.ref la) (TWd K (.ref la) (dN la kv)) ∨ (s14 = .r (.ref la) ∧ la = r.wa ∧ kv = wKV r.waits) := hleft.imp (fun q => q.2) fun q => ⟨q.2.1, q.2.2, q.1.1⟩
      have hfind := lr.find hl'
      rw [← lr.next] at hfind
      rw [← lr.a]
      refine ⟨due.head?.isSome, td_is (td_din (k := .inl (r.next : Int)) (q := la) (kvs := kv) hu1 (ed_rnext hu1 (hf_w 0) (lo_row hr0) (ev_raw 12)) (left_ok2 rfl rfl hr0 hs14).1 (left_ok2 (x := "_law_left") (p := ⟨0, 0, 0, 0⟩) rfl rfl hr0 hs14).2) (by rw [hfind, Option.isSome_map]), fun h => ?_, fun h => ?_⟩
      · cases due with
        | nil => cases h
        | cons y due =>
          obtain ⟨rfl, hyn⟩ : due = [] ∧ y.n = x.row.next := by
            rcases lr.due1 with q | ⟨z, q, hz⟩
            · cases q
            · cases q; exact ⟨rfl, hz⟩
          have hlt := hlt (by simp)
          obtain ⟨m, rfl⟩ : ∃ m', m = m' + 1 := ⟨m - 1, by omega⟩
          have hyr : r.next = y.n := by rw [lr.next, hyn]
          rw [hyr] at hfind
          obtain ⟨st1, st2, st3⟩ := lr.step (clock := st.clock) hl'
          refine sjs_set 7 (y := .d (dI y.n)) (ed_is (ed_rnext hu1 (hf_w 0) (lo_row hr0) (ev_raw 12)) (by rw [hyr])) ?_ nd
          refine SJs.to [.w (.ref o1.a) (OW K (loopO o1 l ln i cells book x.tells r)), .d (eSetting S), .d (dI l), .d (eLetter a.letter), .d (.str "ask"), .d (dI a.k.c), .d (dI a.k.g), .d (dI y.n), s8, s9, s10, .d (dI a.heard), .r (.ref r.a), .l ks, s14, s15] ?_
          refine sjs_asg (d := eW3 y) (ed_dkey (k := .inl (y.n : Int)) (q := la) (kvs := kv) hu1 (left_ok2 rfl rfl hr0 hs14).1 (ed_var 7) (left_ok2 (x := "_law_left") (p := ⟨0, 0, 0, 0⟩) rfl rfl hr0 hs14).2 hfind) (gd_tup rfl (gds_cons (gd_name 8 nd) (gds_cons (gd_name 9 nd) (gds_cons (gd_name 10 nd) gds_nil))) rfl) ?_
          refine sjs_set 15 (y := .d (eAns .late)) (ed_tup (ad_consd ed_str ad_nild)) ?_ nd
          refine SJs.to [.w (.ref o1.a) (OW K (loopO o1 l ln i cells book x.tells r)), .d (eSetting S), .d (dI l), .d (eLetter a.letter), .d (.str "ask"), .d (dI a.k.c), .d (dI a.k.g), .d (dI y.n), .d (.str y.cell), .d (dI y.number), .d (dI y.last), .d (dI a.heard), .r (.ref r.a), .l ks, s14, .d (eAns .late)] ?_
          have hck : (loopO o1 l ln i cells book x.tells r).clock = st.clock := pre.clock
          refine sjs_cons (M := fun ρ => ρ = [.w (.ref o1.a) (OW K (loopO o1 l ln i (decS cells st.clock y).1 book x.tells r)), .d (eSetting S), .d (dI l), .d (eLetter a.letter), .d (.str "ask"), .d (dI a.k.c), .d (dI a.k.g), .d (dI y.n), .d (.str y.cell), .d (dI y.number), .d (dI y.last), .d (dI a.heard), .r (.ref r.a), .l ks, s14, .d (eAns (decS cells st.clock y).2)])
            (sj_if (k := decide (st.clock ≤ y.last)) (td_is (td_cmp op_le (ed_oclock hu1 (hf_w 0) (ev_w 0)) (ed_var 10) rI0_ok (nomark _)) (decide_eq_decide.mpr (by rw [hck]; omega))) (fun h => ?_) fun h => ?_) ?_
          · have h := of_decide_eq_true h
            have ed : decS cells st.clock y = (putA cells y.cell (getA cells y.cell + y.number), .done (getA cells y.cell + y.number)) := by unfold decS; rw [if_neg (by omega)]
            rw [ed]
            have clen := lr.clen
            refine sjs_dput 0 (pth := [3]) (q := o1.ca) (kvs := cKV cells) (k := .inr y.cell) (d := dI (getA cells y.cell + y.number)) hu1 rfl (ev_ocells (w := loopO o1 l ln i cells book x.tells r) hu1 (hf_w 0) (ev_w 0)) (ed_var 8) (ed_addn (ed_is (ed_dget2 (k := .inr y.cell) (d := dI 0) hu1 (ev_ocells (w := loopO o1 l ln i cells book x.tells r) hu1 (hf_w 0) (ev_w 0)) (ed_var 8) ed_k (AtD.mk (kvs := cKV cells) [3] (hf_w 0) rfl)) (findD_cellsD cells y.cell)) (ed_var 9)) rfl (by unfold cKV; rw [List.length_map]; omega) ?_
            rw [putD_cells, put_lo_cells]
            refine sjs_set 15 (y := .d (eAns (.done (getA cells y.cell + y.number)))) (ed_tup (ad_consd ed_str (ad_consd (ed_dkey (k := .inr y.cell) (q := o1.ca) (kvs := cKV (putA cells y.cell (getA cells y.cell + y.number))) hu1 (ev_ocells (w := loopO o1 l ln i (putA cells y.cell (getA cells y.cell + y.number)) book x.tells r) hu1 (hf_w 0) (ev_w 0)) (ed_var 8) (AtD.mk [3] (hf_w 0) rfl) (findD_cells_put _ _ _)) ad_nild))) (sjs_nil rfl) nd
          · have h := of_decide_eq_false h
            have ed : decS cells st.clock y = (cells, .late) := by unfold decS; rw [if_pos (by omega)]
            rw [ed]
            exact sjs_nil rfl
          rintro ρ rfl
          generalize hrep : (decS cells st.clock y).2 = rep at st1 st2 st3 ⊢
          generalize hcel : (decS cells st.clock y).1 = cells' at st2 ⊢
          refine sjs_tkey 0 (pth := [5, i]) (ks := rKeys) (k := .inr "next") (j := 0) (Φ := (· = .d (dI (y.n + 1)))) hu1 rfl (ev_raw 12) ed_str (en_d (ed_addn (ed_var 7) ed_k)) (at_rw (lo_row hr0)) (fun z hz => ?_) (by decide +kernel)
          subst hz
          rw [show MT.put (.n r.a (.dk rKeys) ([.d (dI r.next), .d (dI r.floor), .n r.aa .lst ((r.answers.map eAns).map MT.d), dN r.wa (wKV r.waits)].set 0 (.d (dI (y.n + 1))))) [5, i] (loopO o1 l ln i cells' book x.tells r).t = _ from put_lo_row (r' := { r with next := y.n + 1 }) hr0 rfl]
          refine SJs.to [.w (.ref o1.a) (OW K (loopO o1 l ln i cells' book x.tells { r with next := y.n + 1 })), .d (eSetting S), .d (dI l), .d (eLetter a.letter), .d (.str "ask"), .d (dI a.k.c), .d (dI a.k.g), .d (dI y.n), .d (.str y.cell), .d (dI y.number), .d (dI y.last), .d (dI a.heard), .r (.ref r.a), .l ks, s14, .d (eAns rep)] ?_
          refine sjs_tapp 0 (pth := [5, i, 2]) rfl (ev_rans (r := { r with next := y.n + 1 }) hu1 (hf_w 0) (lo_row hr0) (ev_raw 12)) (en_d (d := eAns rep) (ed_var 15)) (at_ra (lo_row hr0)) (by rw [List.length_map, List.length_map]; show r.answers.length < sizeLine; omega) (fun z hz => ?_)
          subst hz
          rw [put_lo_ans (r := { r with next := y.n + 1 }) hr0]
          refine SJs.to [.w (.ref o1.a) (OW K (loopO o1 l ln i cells' book x.tells { r with next := y.n + 1, answers := r.answers ++ [rep] })), .d (eSetting S), .d (dI l), .d (eLetter a.letter), .d (.str "ask"), .d (dI a.k.c), .d (dI a.k.g), .d (dI y.n), .d (.str y.cell), .d (dI y.number), .d (dI y.last), .d (dI a.heard), .r (.ref r.a), .l ks, s14, .d (eAns rep)] ?_
          refine sjs_tapp 0 (pth := [4]) (q := o1.ba) (cs := (book.map eBook).map MT.d) rfl (ev_obook (w := loopO o1 l ln i cells' book x.tells { r with next := y.n + 1, answers := r.answers ++ [rep] }) hu1 (hf_w 0) (ev_w 0)) (en_d (d := eBook (⟨a.k.c, a.k.g, y.n⟩, rep)) (ed_tup (ad_consd (ed_tup (ad_consd (ed_var 5) (ad_consd (ed_var 6) (ad_consd (ed_var 7) ad_nild)))) (ad_consd (ed_var 15) ad_nild)))) rfl (by rw [List.length_map, List.length_map]; omega) (fun z hz => ?_)
          subst hz
          rw [put_lo_book]
          refine SJs.to [.w (.ref o1.a) (OW K (loopO o1 l ln i cells' (book ++ [(⟨a.k.c, a.k.g, y.n⟩, rep)]) x.tells { r with next := y.n + 1, answers := r.answers ++ [rep] })), .d (eSetting S), .d (dI l), .d (eLetter a.letter), .d (.str "ask"), .d (dI a.k.c), .d (dI a.k.g), .d (dI y.n), .d (.str y.cell), .d (dI y.number), .d (dI y.last), .d (dI a.heard), .r (.ref r.a), .l ks, s14, .d (eAns rep)] ?_
          refine sjs_tapp 0 (pth := [2, l]) rfl (ev_oln (hf_w 0) (lo_ln hln) (ev_olanes hu1 (hf_w 0) (ev_w 0)) (ed_var 2)) (en_d (d := eTell (⟨a.k.c, a.k.g, y.n⟩, rep)) (ed_tup (ad_consd ed_str (ad_consd (ed_tup (ad_consd (ed_var 5) (ad_consd (ed_var 6) (ad_consd (ed_var 7) ad_nild)))) (ad_consd (ed_var 15) ad_nild))))) (at_ln (lo_ln hln)) (by rw [List.length_map, List.length_map]; show (ln.ls ++ _).length < sizeLine; rw [List.length_append, List.length_map]; omega) (fun z hz => ?_)
          subst hz
          rw [put_lo_ln hln]
          refine SJs.to [.w (.ref o1.a) (OW K (loopO o1 l ln i cells' (book ++ [(⟨a.k.c, a.k.g, y.n⟩, rep)]) (x.tells ++ [(⟨a.k.c, a.k.g, y.n⟩, rep)]) { r with next := y.n + 1, answers := r.answers ++ [rep] })), .d (eSetting S), .d (dI l), .d (eLetter a.letter), .d (.str "ask"), .d (dI a.k.c), .d (dI a.k.g), .d (dI y.n), .d (.str y.cell), .d (dI y.number), .d (dI y.last), .d (dI a.heard), .r (.ref r.a), .l ks, s14, .d (eAns rep)] ?_
          refine sjs_app 13 (ds := ks) (d := eKey ⟨a.k.c, a.k.g, y.n⟩) (ed_tup (ad_consd (ed_var 5) (ad_consd (ed_var 6) (ad_consd (ed_var 7) ad_nild)))) rfl (by omega) ?_ (slot_name 13)
          refine sjs_dpop 0 (pth := [5, i, 3]) (q := r.wa) (kvs := wKV r.waits) (k := .inl (y.n : Int)) (d := .none) rfl (ev_rwaits (r := { r with next := y.n + 1, answers := r.answers ++ [rep] }) hu1 (hf_w 0) (lo_row hr0) (ev_raw 12)) (ed_var 7) ed_non (at_rwt (r := { r with next := y.n + 1, answers := r.answers ++ [rep] }) (lo_row hr0)) (put_lo_waits (r := { r with next := y.n + 1, answers := r.answers ++ [rep] }) (ws := r.waits) hr0) ?_
          rw [dropD_waits, put_lo_waits (r := { r with next := y.n + 1, answers := r.answers ++ [rep] }) hr0]
          refine SJs.to [.w (.ref o1.a) (OW K (loopO o1 l ln i cells' (book ++ [(⟨a.k.c, a.k.g, y.n⟩, rep)]) (x.tells ++ [(⟨a.k.c, a.k.g, y.n⟩, rep)]) { r with next := y.n + 1, answers := r.answers ++ [rep], waits := r.waits.filter fun w => decide (w.n ≠ y.n) })), .d (eSetting S), .d (dI l), .d (eLetter a.letter), .d (.str "ask"), .d (dI a.k.c), .d (dI a.k.g), .d (dI y.n), .d (.str y.cell), .d (dI y.number), .d (dI y.last), .d (dI a.heard), .r (.ref r.a), .l (ks ++ [eKey ⟨a.k.c, a.k.g, y.n⟩]), s14, .d (eAns rep)] ?_
          refine sjs_set 14 (y := .r (.ref r.wa)) (ev_rwaits (r := { r with next := y.n + 1, answers := r.answers ++ [rep], waits := r.waits.filter fun w => decide (w.n ≠ y.n) }) hu1 (hf_w 0) (lo_row hr0) (ev_raw 12)) (sjs_nil ?_) nd
          have et : x.tells ++ [(⟨a.k.c, a.k.g, y.n⟩, rep)] = (oneS a.k.c a.k.g st.clock x y).tells := by
            show _ = x.tells ++ [(⟨a.k.c, a.k.g, y.n⟩, (decS x.cells st.clock y).2)]
            rw [← st1]
          refine ⟨m, Nat.lt_succ_self m, oneS a.k.c a.k.g st.clock x y, dueW x.row.waiting (y.n + 1), cells', book ++ [(⟨a.k.c, a.k.g, y.n⟩, rep)], { r with next := y.n + 1, answers := r.answers ++ [rep], waits := r.waits.filter fun w => decide (w.n ≠ y.n) }, ks ++ [eKey ⟨a.k.c, a.k.g, y.n⟩], r.wa, _, .d (dI y.n), .d (.str y.cell), .d (dI y.number), .d (dI y.last), _, .d (eAns rep), hrun, fun hne => ?_, ?_, st2, .inr ⟨st3, rfl, rfl⟩, ?_⟩
          · obtain ⟨z, hz⟩ := List.exists_mem_of_ne_nil _ hne
            obtain ⟨hz1, hz2⟩ := List.mem_filter.mp hz
            have hz2 := of_decide_eq_true hz2
            have q : (x.row.waiting.filter fun z => decide (y.n + 1 < z.n)).length < x.row.waiting.length := List.length_filter_lt_length_iff_exists.mpr ⟨z, hz1, by simp only [decide_eq_true_eq]; omega⟩
            show (x.row.waiting.filter fun z => decide (y.n + 1 < z.n)).length < m
            omega
          · rw [← et]
            simp only [List.length_append, List.length_cons, List.length_nil]
            omega
          · rw [← et]; rfl
      · have hd : due = [] := by
          cases due with
          | nil => rfl
          | cons y due => cases h
        subst hd
        refine ⟨x, cells, book, r, ks, s7, s8, s9, s10, s14, s15, ?_, lr, ?_, by rw [lr.a]⟩
        · rw [← hrun]
          cases m <;> rfl
        · rcases hl' with ⟨_, q⟩ | ⟨_, q⟩
          · exact q
          · exact q
    · rintro ρ ⟨x, cells, book, r, ks, s7, s8, s9, s10, s14, s15, hx, lr, hp, rfl⟩
      refine sjs_ret (ed_tupOf T.tuple (er_var 13)) ⟨OW K (loopO o1 l ln i cells book x.tells r), rfl, hQ _ _ pre.a ?_⟩
      rw [← hx]
      exact Sim.asked pre.clock pre.folk (by rw [pre.lanes]; exact sim.lanes) hln pre.ra lr hp wf.rnd
end
end TC
set_option linter.all false
/-! Plain: states stay well. -/
namespace TC
open PySem
section
variable {S : Setting} {st : State}
theorem LetOk.same {st st' : State} {x : Letter} (h : LetOk st x) (h1 : ∀ k y, callAt st k = some y → ∃ y', callAt st' k = some y') (h2 : ∀ c g, nextOf st c g ≤ nextOf st' c g) : LetOk st' x := by
  cases x with
  | ask k cell number last heard => exact ⟨h.1, let ⟨y, hy⟩ := h.2.1; h1 k y hy, Nat.le_trans h.2.2 (h2 _ _)⟩
  | tell k a => exact ⟨let ⟨y, hy⟩ := h.1; h1 k y hy, Nat.lt_of_lt_of_le h.2 (h2 _ _)⟩
theorem Wf.lanes_ (h : Wf S st) {ls : List (List Letter)} (h1 : ls.length = 2) (h2 : ∀ l ∈ ls, ∀ x ∈ l, LetOk st x) : Wf S { st with lanes := ls } :=
  ⟨⟨h.shp.nc, h.shp.ng⟩, h.grp, h.purse, h1, fun l hl x hx => (h2 l hl x hx).same (fun k y q => ⟨y, q⟩) fun _ _ => Nat.le_refl _, fun r hr => let q := h.rows r hr; ⟨q.grp, q.fl, q.ans, q.nx, q.wt, q.wn⟩, h.rnd, h.cells, h.cnd, h.ans⟩
theorem Wf.clock_ (h : Wf S st) {c : Nat} : Wf S { st with clock := c } :=
  ⟨⟨h.shp.nc, h.shp.ng⟩, h.grp, h.purse, h.nl, fun l hl x hx => (h.lets l hl x hx).same (fun k y q => ⟨y, q⟩) fun _ _ => Nat.le_refl _, fun r hr => let q := h.rows r hr; ⟨q.grp, q.fl, q.ans, q.nx, q.wt, q.wn⟩, h.rnd, h.cells, h.cnd, h.ans⟩
theorem mem_set {α : Type} {xs : List α} {i : Nat} {y z : α} (h : z ∈ xs.set i y) : z ∈ xs ∨ z = y := by
  rcases List.mem_iff_getElem?.mp h with ⟨j, hj⟩
  by_cases e : i = j
  · subst e
    have hl : i < xs.length := by simpa using (List.getElem?_eq_some_iff.mp hj).1
    rw [List.getElem?_set_self hl] at hj
    cases hj
    exact .inr rfl
  · rw [List.getElem?_set_ne e] at hj
    exact .inl (List.mem_of_getElem? hj)
theorem lane_in {l : Nat} {x : Letter} (h : x ∈ lane st l) : ∃ L ∈ st.lanes, x ∈ L := by
  unfold lane at h
  cases e : st.lanes[l]? with
  | none => rw [e] at h; cases h
  | some L => rw [e] at h; exact ⟨L, List.mem_of_getElem? e, h⟩
theorem Wf.lane_ok (h : Wf S st) {l : Nat} : ∀ x ∈ lane st l, LetOk st x := fun x hx => by
  obtain ⟨L, h1, h2⟩ := lane_in hx
  exact h.lets L h1 x h2
theorem Wf.setL (h : Wf S st) {l : Nat} {L : List Letter} (h2 : ∀ x ∈ L, LetOk st x) : Wf S { st with lanes := st.lanes.set l L } :=
  h.lanes_ (by rw [List.length_set]; exact h.nl) fun l' hl' x hx => by
    rcases mem_set hl' with q | rfl
    · exact h.lets l' q x hx
    · exact h2 x hx
theorem Wf.without (h : Wf S st) {l k : Nat} : Wf S (withoutS st l k) := h.setL fun x hx => by
  rcases List.mem_append.mp hx with q | q
  · exact h.lane_ok x (List.mem_of_mem_take q)
  · exact h.lane_ok x (List.mem_of_mem_drop q)
theorem Wf.sent (h : Wf S st) {l : Nat} {x : Letter} (hx : LetOk st x) : Wf S (sentS st l x) := h.setL fun y hy => by
  rcases List.mem_append.mp hy with q | q
  · exact h.lane_ok y q
  · rw [List.mem_singleton.mp q]; exact hx
theorem Wf.tear (h : Wf S st) {l : Nat} : Wf S { st with lanes := st.lanes.set l [] } := h.setL fun x hx => by cases hx
theorem nextOf_fall (c g : Nat) : nextOf { st with house := fallenS st.house } c g = nextOf st c g := by
  unfold nextOf rowD rowAt fallenS
  simp only
  rw [List.find?_map]
  have e : ((fun r : Row => decide (place r = (c, g))) ∘ fun r : Row => { r with waiting := [] }) = fun r => decide (place r = (c, g)) := rfl
  rw [e]
  cases st.house.rows.find? fun r => decide (place r = (c, g)) <;> rfl
theorem Wf.fall (h : Wf S st) : Wf S { st with house := fallenS st.house } := by
  refine ⟨⟨h.shp.nc, h.shp.ng⟩, h.grp, h.purse, h.nl, fun l hl x hx => (h.lets l hl x hx).same (fun k y q => ⟨y, q⟩) fun c g => by rw [nextOf_fall]; exact Nat.le_refl _, fun r hr => ?_, ?_, h.cells, h.cnd, fun k x q1 q2 => by rw [nextOf_fall]; exact h.ans k x q1 q2⟩
  · obtain ⟨r', hr', rfl⟩ := List.mem_map.mp hr
    have q := h.rows r' hr'
    exact ⟨q.grp, q.fl, q.ans, q.nx, (fun x hx => by cases hx), List.nodup_nil⟩
  · show ((st.house.rows.map fun r => { r with waiting := [] }).map place).Nodup
    rw [List.map_map]
    exact h.rnd
/-! ### a caller's row changed -/
theorem grp_with {c g : Nat} {clr : Clr} {pu : Fr} {t : Nat} {cl : List Call} (hclr : st.callers[c]? = some clr) (hg : g < clr.groups.length) (c' g' : Nat) : grp (withCaller st c ⟨pu, t, withCalls clr.groups g cl⟩) c' g' = if c' = c ∧ g' = g then some ⟨heardOf cl, cl⟩ else grp st c' g' := by
  have hc := (List.getElem?_eq_some_iff.mp hclr).1
  unfold grp withCaller withCalls
  simp only
  by_cases h1 : c' = c
  · subst h1
    rw [List.getElem?_set_self hc, hclr]
    simp only [Option.bind_some]
    by_cases h2 : g' = g
    · subst h2
      rw [List.getElem?_set_self hg]; simp
    · rw [List.getElem?_set_ne (Ne.symm h2)]; simp [h2]
  · rw [List.getElem?_set_ne (Ne.symm h1)]; simp [h1]
theorem Wf.caller (h : Wf S st) {c g : Nat} {clr : Clr} {G : Grp} {pu : Fr} {t : Nat} {cl : List Call} (hclr : st.callers[c]? = some clr) (hG : clr.groups[g]? = some G) (hp : 0 < pu.2 ∧ pu.2 ≤ 6) (hlen : cl.length ≤ lenS S c g) (hlane : ∀ k ∈ cl, k.lane ≤ 1) (hge : G.calls.length ≤ cl.length)
    (ha : ∀ n x, cl[n]? = some x → x.ans.isSome = true → n < nextOf st c g) : Wf S (withCaller st c ⟨pu, t, withCalls clr.groups g cl⟩) := by
  have hc := (List.getElem?_eq_some_iff.mp hclr).1
  have hg := (List.getElem?_eq_some_iff.mp hG).1
  have gw := grp_with (pu := pu) (t := t) (cl := cl) hclr hg
  have gG := grp_mk hclr hG
  have gd : ∀ c' g', (grpD st c' g').calls.length ≤ (grpD (withCaller st c ⟨pu, t, withCalls clr.groups g cl⟩) c' g').calls.length := fun c' g' => by
    unfold grpD
    rw [gw]
    by_cases q : c' = c ∧ g' = g
    · rw [if_pos q, q.1, q.2, gG]; exact hge
    · rw [if_neg q]; exact Nat.le_refl _
  have ca : ∀ k y, callAt st k = some y → ∃ y', callAt (withCaller st c ⟨pu, t, withCalls clr.groups g cl⟩) k = some y' := fun k y q => by
    unfold callAt at q ⊢
    rw [gw]
    by_cases e : k.c = c ∧ k.g = g
    · rw [if_pos e]
      rw [e.1, e.2, gG] at q
      have := (List.getElem?_eq_some_iff.mp (show G.calls[k.n]? = some y from q)).1
      exact ⟨cl[k.n]'(by omega), List.getElem?_eq_getElem _⟩
    · rw [if_neg e]; exact ⟨y, q⟩
  refine ⟨⟨by rw [← h.shp.nc]; exact List.length_set, fun c' clr' cs q1 q2 => ?_⟩, fun c' g' G' q => ?_, fun clr' q => ?_, h.nl, fun l hl x hx => (h.lets l hl x hx).same ca fun _ _ => Nat.le_refl _, fun r hr => ?_, h.rnd, h.cells, h.cnd, fun k x q1 q2 => ?_⟩
  · have q1 : (st.callers.set c ⟨pu, t, withCalls clr.groups g cl⟩)[c']? = some clr' := q1
    by_cases e : c = c'
    · subst e
      rw [List.getElem?_set_self hc] at q1
      cases q1
      show (clr.groups.set g _).length = _
      rw [List.length_set]
      exact h.shp.ng c clr cs hclr q2
    · rw [List.getElem?_set_ne e] at q1
      exact h.shp.ng c' clr' cs q1 q2
  · rw [gw] at q
    by_cases e : c' = c ∧ g' = g
    · rw [if_pos e] at q
      cases q
      rw [e.1, e.2]
      exact ⟨rfl, hlen, hlane⟩
    · rw [if_neg e] at q
      exact h.grp c' g' G' q
  · rcases mem_set (show clr' ∈ st.callers.set c _ from q) with q | rfl
    · exact h.purse clr' q
    · exact hp
  · have q := h.rows r hr
    exact ⟨q.grp, q.fl, q.ans, Nat.le_trans q.nx (gd _ _), fun x hx => let w := q.wt x hx; ⟨w.1, w.2.1, Nat.lt_of_lt_of_le w.2.2 (gd _ _)⟩, q.wn⟩
  · unfold callAt at q1
    rw [gw] at q1
    by_cases e : k.c = c ∧ k.g = g
    · rw [if_pos e] at q1
      show k.n < nextOf st k.c k.g
      rw [e.1, e.2]
      exact ha k.n x q1 q2
    · rw [if_neg e] at q1
      exact h.ans k x q1 q2
/-! ### hearing -/
theorem Wf.heard (h : Wf S st) {k : Key} {a : Ans} (hk : k.n < nextOf st k.c k.g) : Wf S (heardTell st k a) := by
  unfold heardTell
  cases hn : isNew st k with
  | false => exact h
  | true =>
    show Wf S (withCaller st k.c _)
    unfold isNew at hn
    cases hx : callAt st k with
    | none => rw [hx] at hn; cases hn
    | some x =>
      have hx' := hx
      unfold callAt TC.grp at hx'
      cases hclr : st.callers[k.c]? with
      | none => rw [hclr] at hx'; cases hx'
      | some clr =>
        rw [hclr] at hx'
        cases hG : clr.groups[k.g]? with
        | none => simp [hG] at hx'
        | some G =>
          have hcx : G.calls[k.n]? = some x := by simpa [hG] using hx'
          have gG := grp_mk hclr hG
          have e1 : clrD st k.c = clr := by unfold clrD; rw [hclr]; rfl
          have e2 : grpD st k.c k.g = G := by unfold grpD; rw [gG]; rfl
          have e3 : callD st k = x := by unfold callD; rw [hx]; rfl
          rw [e1, e2, e3]
          have gok := h.grp _ _ _ gG
          refine h.caller hclr hG (h.purse clr (List.mem_of_getElem? hclr)) (by rw [List.length_set]; exact gok.len) (fun y hy => ?_) (by rw [List.length_set]; exact Nat.le_refl _) (fun n y q1 q2 => ?_)
          · rcases mem_set hy with q | rfl
            · exact gok.lane y q
            · exact gok.lane x (List.mem_of_getElem? hcx)
          · by_cases e : k.n = n
            · subst e; exact hk
            · rw [List.getElem?_set_ne e] at q1
              exact h.ans ⟨k.c, k.g, n⟩ y (by unfold callAt; rw [gG]; exact q1) q2
/-! ### going -/
end
end TC
set_option Elab.async false
set_option linter.all false
set_option maxRecDepth 100000
set_option maxHeartbeats 4000000
/-! The law's own machine: get. -/
namespace TC
open PySem L2
theorem Sim.lane_at {o : OwA} {st : State} (h : Sim o st) {l : Nat} (hl : l < st.lanes.length) : ∃ ln, o.lanes[l]? = some ln ∧ ln.ls = lane st l := by
  have e := congrArg List.length h.lanes
  rw [List.length_map] at e
  have hl' : l < o.lanes.length := by omega
  refine ⟨o.lanes[l], List.getElem?_eq_getElem hl', ?_⟩
  unfold lane
  rw [← h.lanes, List.getElem?_map, List.getElem?_eq_getElem hl']
  rfl
theorem Sim.setL {o : OwA} {st : State} (h : Sim o st) {l : Nat} {ln : LnA} {L : List Letter} (hL : ln.ls = L) : Sim (o.setL l ln) { st with lanes := st.lanes.set l L } :=
  ⟨h.clock, h.folk, by show (o.lanes.set l ln).map (·.ls) = _; rw [List.map_set, h.lanes, hL], h.book, h.cells, h.clen, h.rows, h.rnd, h.rlen⟩
theorem erase_td {α : Type} {xs : List α} {k : Nat} : xs.eraseIdx k = xs.take k ++ xs.drop (k + 1) := List.eraseIdx_eq_take_drop_succ xs k
theorem erase_map {α β : Type} {f : α → β} : ∀ {xs : List α} {k : Nat}, (xs.map f).eraseIdx k = (xs.eraseIdx k).map f
  | [], _ => rfl
  | x :: xs, 0 => rfl
  | x :: xs, k + 1 => congrArg (List.cons _) (erase_map (xs := xs) (k := k))
theorem call_un {st : State} {k : Key} {y : Call} (h : callAt st k = some y) : ∃ clr G, st.callers[k.c]? = some clr ∧ clr.groups[k.g]? = some G ∧ G.calls[k.n]? = some y := by
  unfold callAt grp at h
  cases hclr : st.callers[k.c]? with
  | none => rw [hclr] at h; cases h
  | some clr =>
    rw [hclr] at h
    cases hG : clr.groups[k.g]? with
    | none => simp [hG] at h
    | some G => exact ⟨clr, G, rfl, hG, by simpa [hG] using h⟩
theorem Sim.without {o : OwA} {st : State} (h : Sim o st) {l k : Nat} {ln : LnA} (hln : ln.ls = lane st l) : Sim (o.setL l { ln with ls := ln.ls.eraseIdx k }) (withoutS st l k) := h.setL (by show ln.ls.eraseIdx k = _; rw [hln, erase_td])
/-- a call's answer -/
theorem Sim.heard {o : OwA} {st : State} (h : Sim o st) {k : Key} {a : Ans} {m : MnA} {gp : GpA} {xa : CaA} {clr : Clr} {G : Grp} {x : Call} (hm : o.folk[k.c]? = some m) (hgp : m.groups[k.g]? = some gp) (hxa : gp.calls[k.n]? = some xa) (hclr : st.callers[k.c]? = some clr) (hG : clr.groups[k.g]? = some G) (hx : G.calls[k.n]? = some x) (hc : xa.c = x) (sm : SimM m clr) (hgc : gp.cs = G.calls) :
    Sim (o.setM k.c (m.setG k.g (gp.setC k.n ⟨xa.a, { x with ans := if x.ans.isNone then some a else x.ans }⟩))) (heardTell st k a) := by
  have gG := grp_mk hclr hG
  have hca : callAt st k = some x := by unfold callAt; rw [gG]; exact hx
  have hn : isNew st k = x.ans.isNone := by unfold isNew; rw [hca]
  have ecs : (gp.setC k.n ⟨xa.a, { x with ans := if x.ans.isNone then some a else x.ans }⟩).cs = G.calls.set k.n { x with ans := if x.ans.isNone then some a else x.ans } := by
    unfold GpA.cs GpA.setC
    rw [List.map_set]
    rw [← hgc]
    rfl
  unfold heardTell
  rw [hn]
  cases hA : x.ans.isNone with
  | true =>
    have e1 : clrD st k.c = clr := by unfold clrD; rw [hclr]; rfl
    have e2 : grpD st k.c k.g = G := by unfold grpD; rw [gG]; rfl
    have e3 : callD st k = x := by unfold callD; rw [hca]; rfl
    rw [if_pos rfl]
    show Sim _ (withCaller st k.c ⟨(clrD st k.c).purse, (clrD st k.c).tries, withCalls (clrD st k.c).groups k.g ((grpD st k.c k.g).calls.set k.n { callD st k with ans := some a })⟩)
    rw [e1, e2, e3]
    rw [hA] at ecs
    refine ⟨h.clock, Paired.set ⟨sm.pd, sm.pq, sm.tr, ?_⟩ k.c h.folk, h.lanes, h.book, h.cells, h.clen, h.rows, h.rnd, h.rlen⟩
    refine (setG_cs hgp).trans ((congrArg (List.set _ k.g) ecs).trans ?_)
    rw [calls_with, sm.gr]
    rfl
  | false =>
    rw [if_neg (by simp)]
    rw [hA] at ecs
    have e0 : G.calls.set k.n x = G.calls := by
      obtain ⟨q1, q2⟩ := List.getElem?_eq_some_iff.mp hx
      subst q2
      exact List.set_getElem_self q1
    have ecs : (gp.setC k.n ⟨xa.a, { x with ans := if false = true then some a else x.ans }⟩).cs = G.calls := ecs.trans e0
    have ef : st.callers.set k.c clr = st.callers := by
      obtain ⟨q1, q2⟩ := List.getElem?_eq_some_iff.mp hclr
      subst q2
      exact List.set_getElem_self q1
    refine ⟨h.clock, ?_, h.lanes, h.book, h.cells, h.clen, h.rows, h.rnd, h.rlen⟩
    show Paired SimM (o.folk.set k.c _) st.callers
    rw [← ef]
    refine Paired.set ⟨sm.pd, sm.pq, sm.tr, ?_⟩ k.c h.folk
    refine (setG_cs hgp).trans ((congrArg (List.set _ k.g) ecs).trans ?_)
    rw [sm.gr]
    have hg2 : (clr.groups.map (·.calls))[k.g]? = some G.calls := by rw [List.getElem?_map, hG]; rfl
    obtain ⟨q1, q2⟩ := List.getElem?_eq_some_iff.mp hg2
    rw [← q2]
    exact List.set_getElem_self q1
theorem Szs.without {st : State} (h : Szs st) {l k : Nat} : Szs (withoutS st l k) := by
  refine ⟨fun L hL => ?_, h.book, h.cells, h.wait, h.rows⟩
  rcases mem_set (show L ∈ st.lanes.set l _ from hL) with q | rfl
  · exact h.lanes L q
  · have : (lane st l).length ≤ 100000 := by
      unfold lane
      cases e : st.lanes[l]? with
      | none => simp
      | some L => exact h.lanes L (List.mem_of_getElem? e)
    rw [List.length_append, List.length_take, List.length_drop]
    omega
section
variable {P : Program} {w : World} {K : PySem.W.Frag} {mg : Str → Option Value} {base : Heap}
theorem sc_lget : FnScope ["_law_own", "_law_deal_here", "_law_lane", "_law_k", "_law_letter", "_law_who", "_law_g", "_law_n", "_law_call", "_law_is_fresh"] ["_law_own", "_law_deal_here", "_law_lane", "_law_k"] (defScope (top 83)) := ⟨rfl, rfl, rfl, by decide +kernel, rfl, by decide +kernel, by decide +kernel⟩
def R_lget (K : PySem.W.Frag) (xs : List Sl) (Q : Sl → Wld → Prop) : Prop := ∃ (S : Setting) (st : State) (o : OwA) (l k : Nat), xs = [.w (.ref o.a) (OW K o), .d (eSetting S), .d (dI l), .d (dI k)] ∧ WfS S ∧ Sim o st ∧ Wf S st ∧ Szs st ∧ l < 2 ∧ k < (lane st l).length ∧
  ∀ (d : PyData) (o' : OwA), o'.a = o.a → Sim o' (getS S st l k) → Q (.d d) (OW K o')
theorem c_lget (T : Bl mg) (O : Own K mg "_law_get" (defD "_law_get" (top 83)) []) (ca : Cal P w K mg base 1 "_law_asked" (MSp K (R_lasked K)) []) : Cal P w K mg base 2 "_law_get" (MSp K (R_lget K)) [] := by
  refine cal_mut O sc_lget ?_ (by decide) (fun _ _ _ _ _ _ us hl => match us, hl with | [_, _, _, _], _ => rfl) ?_
  · rintro xs Q ⟨S, st, o, l, k, rfl, _⟩; rfl
  · rintro f cdv A outer s H E hr v W xs Q ⟨S, st, o, l, k, e, ws, sim, wf, zs, hl, hk, hQ⟩
    cases e
    have hsz := sz
    have nd := sc_lget.nd
    have hu := roomU hr
    have hu1 : (A.deeper (PyProof.Rows.envOfC "_law_get" (defScope (top 83)) s.heap.objs.size f cdv)).units + 1 < cLine := by omega
    obtain ⟨ln, hln, hls⟩ := sim.lane_at (l := l) (by rw [wf.nl]; exact hl)
    obtain ⟨x, hx, hlet⟩ := letter_at hk
    have hxl : (ln.ls.map eLetter)[k]? = some (eLetter x) := by rw [List.getElem?_map, hls, hx]; rfl
    have hsm : (lane st l).length ≤ 100000 := by
      unfold lane
      cases e : st.lanes[l]? with
      | none => simp
      | some L => exact zs.lanes L (List.mem_of_getElem? e)
    have lok : LetOk st x := wf.lane_ok x (List.mem_of_getElem? hx)
    refine sjs_setW 4 (R := fun d ρ' => d = eLetter x ∧ ρ' = [.w (.ref o.a) (OW K (o.setL l { ln with ls := ln.ls.eraseIdx k })), .d (eSetting S), .d (dI l), .d (dI k), .no, .no, .no, .no, .no, .no]) (ew_tpop 0 (pth := [2, l]) (ds := ln.ls.map eLetter) (j := k) (d := eLetter x) rfl (ev_oln (hf_w 0) hln (ev_olanes hu1 (hf_w 0) (ev_w 0)) (ed_var 2)) (ed_var 3) (at_ln hln) hxl ?_ (by omega)) (fun d ρ' hd => ?_) nd
    · refine ⟨rfl, ?_⟩
      have e : MT.put (.n ln.a .lst (((ln.ls.map eLetter).eraseIdx k).map MT.d)) [2, l] o.t = (o.setL l { ln with ls := ln.ls.eraseIdx k }).t := by
        rw [← put_ln (l' := { ln with ls := ln.ls.eraseIdx k }) hln]
        congr 1
        show _ = MT.n ln.a .lst (((ln.ls.eraseIdx k).map eLetter).map MT.d)
        rw [erase_map]
      rw [e]
      rfl
    obtain ⟨rfl, rfl⟩ := hd
    have sim1 : Sim (o.setL l { ln with ls := ln.ls.eraseIdx k }) (withoutS st l k) := sim.without hls
    have wf1 : Wf S (withoutS st l k) := wf.without
    generalize ho1 : o.setL l { ln with ls := ln.ls.eraseIdx k } = o1 at sim1
    have ha1 : o1.a = o.a := by rw [← ho1]; rfl
    rw [← ha1]
    refine SJs.to [.w (.ref o1.a) (OW K o1), .d (eSetting S), .d (dI l), .d (dI k), .d (eLetter x), .no, .no, .no, .no, .no] ?_
    cases x with
    | ask key cell number last heard =>
      have hg : getS S st l k = tellAll { withoutS st l k with house := closedS st.house (askS S st.house st.clock ⟨key, cell, number, last, heard⟩) } l (askS S st.house st.clock ⟨key, cell, number, last, heard⟩).tells := by
        unfold getS
        rw [hlet]
      obtain ⟨ln1, hln1, _⟩ := sim1.lane_at (l := l) (by rw [wf1.nl]; exact hl)
      refine sjs_takeR (td_is (td_eqS (ed_ic (ed_var 4) rfl) ed_str) (m := true) (by decide +kernel)) ?_
      refine sjs_retW (R := fun d ρ' => ∃ o' : OwA, o'.a = o1.a ∧ Sim o' (getS S st l k) ∧ ρ'[0]? = some (.w (.ref o1.a) (OW K o'))) (ew_eo (i := 0) (v := .ref o1.a) (W := OW K o1) (P := fun d W' => ∃ o' : OwA, o'.a = o1.a ∧ Sim o' (getS S st l k) ∧ W' = OW K o') rfl (eo_tup (ao_cons rfl (eo_pure (P := fun d W' => d = .str "asked" ∧ W' = OW K o1) rfl ed_str ⟨rfl, rfl⟩) fun d1 W1 h1 => ?_)) (fun d W' h => ?_)) (fun d ρ' h => ?_)
      · obtain ⟨rfl, rfl⟩ := h1
        refine ao_cons rfl (eo_pure (P := fun d W' => d = eKey key ∧ W' = OW K o1) rfl (ed_ic (ed_var 4) rfl) ⟨rfl, rfl⟩) fun d1 W1 h1 => ?_
        obtain ⟨rfl, rfl⟩ := h1
        refine ao_cons rfl (eo_call (P := fun d W' => ∃ o' : OwA, o'.a = o1.a ∧ Sim o' (getS S st l k) ∧ W' = OW K o') (PP := fun z W' => ∃ (d : PyData) (o' : OwA), z = .d d ∧ o'.a = o1.a ∧ Sim o' (getS S st l k) ∧ W' = OW K o') (xs := [.d (eSetting S), .d (dI l), .d (eLetter (.ask key cell number last heard))]) ca hr rfl (ad_cons (ev_w 0) (ad_cons (ed_var 1) (ad_cons (ed_var 2) (ad_cons (ed_var 4) ad_nil)))) (fun z hz => ?_) ⟨S, withoutS st l k, o1, l, ⟨key, cell, number, last, heard⟩, ln1, rfl, ws, sim1, wf1, zs.without, lok.same (fun k y q => ⟨y, q⟩) (fun _ _ => Nat.le_refl _), hln1, fun d o' h1 h2 => ⟨d, o', rfl, h1, by rw [hg]; exact h2, rfl⟩⟩ (fun z W' h => ?_)) fun d1 W1 h1 => ?_
        · simp only [List.mem_cons, List.not_mem_nil, or_false] at hz
          rcases hz with rfl | rfl | rfl <;> exact ⟨_, rfl⟩
        · obtain ⟨d, o', rfl, h1, h2, rfl⟩ := h
          exact ⟨d, rfl, o', h1, h2, rfl⟩
        · obtain ⟨o', h1, h2, rfl⟩ := h1
          exact ao_nil rfl ⟨⟨o', h1, h2, rfl⟩, by show 3 ≤ sizeLine; omega⟩
      · obtain ⟨o', h1, h2, rfl⟩ := h
        exact ⟨o', h1, h2, rfl⟩
      · obtain ⟨o', h1, h2, h3⟩ := h
        exact ⟨OW K o', h3, hQ d o' (h1.trans ha1) h2⟩
    | tell key a =>
      have hg : getS S st l k = heardTell (withoutS st l k) key a := by
        unfold getS
        rw [hlet]
      obtain ⟨y, hy⟩ := lok.1
      obtain ⟨clr, G, hclr, hG, hGy⟩ := call_un hy
      obtain ⟨m, hm, sm⟩ := Paired.at_ sim1.folk (show (withoutS st l k).callers[key.c]? = some clr from hclr)
      obtain ⟨gp, hgp, hgc⟩ := sm.grp hG
      obtain ⟨xa, hxa, hxc⟩ := GpA.at_ (gp := gp) (n := key.n) (by rw [hgc]; exact hGy)
      refine sjs_skip (td_is (td_eqS (ed_ic (ed_var 4) rfl) ed_str) (m := false) (by decide +kernel)) ?_
      refine sjs_asg (d := eKey key) (ed_ic (ed_var 4) rfl) (gd_tup rfl (gds_cons (gd_name 5 nd) (gds_cons (gd_name 6 nd) (gds_cons (gd_name 7 nd) gds_nil))) rfl) ?_
      refine SJs.to [.w (.ref o1.a) (OW K o1), .d (eSetting S), .d (dI l), .d (dI k), .d (eLetter (.tell key a)), .d (dI key.c), .d (dI key.g), .d (dI key.n), .no, .no] ?_
      refine sjs_set 8 (y := .r (.ref xa.a)) (ev_oca (hf_w 0) hm hgp hxa (ev_ogp (hf_w 0) hm hgp (ev_mcalls hu1 (hf_w 0) hm (ev_oman (hf_w 0) hm (ev_ofolk hu1 (hf_w 0) (ev_w 0)) (ed_var 5))) (ed_var 6)) (ed_var 7)) ?_ nd
      refine sjs_set 9 (y := .d (.bool (y.ans.isNone))) (ed_is (ed_isN (ed_oca (n := 3) (hf_w 0) hm hgp hxa (ev_raw 8) ed_k rfl)) (by rw [isNo_oans, hxc])) ?_ nd
      refine SJs.to [.w (.ref o1.a) (OW K o1), .d (eSetting S), .d (dI l), .d (dI k), .d (eLetter (.tell key a)), .d (dI key.c), .d (dI key.g), .d (dI key.n), .r (.ref xa.a), .d (.bool (y.ans.isNone))] ?_
      refine sjs_tidx 0 (pth := [1, key.c, 2, key.g, key.n]) (j := 3) (Φ := (· = .d (eOAns (if y.ans.isNone then some a else y.ans)))) rfl (ev_raw 8) ed_k (en_d (ev_if (k := y.ans.isNone) (td_val (ed_var 9)) (fun h => ?_) fun h => ?_)) (at_ca hm hgp hxa) (by show 3 < 4; decide) (fun z hz => ?_)
      · rw [if_pos h]
        exact ed_is (ed_ic (ed_var 4) rfl) rfl
      · rw [if_neg (by rw [h]; simp)]
        exact ed_is (ed_oca (n := 3) (hf_w 0) hm hgp hxa (ev_raw 8) ed_k rfl) (by rw [hxc])
      subst hz
      have e : MT.put (.n xa.a .lst ((xa.ds.map MT.d).set 3 (.d (eOAns (if y.ans.isNone then some a else y.ans))))) [1, key.c, 2, key.g, key.n] o1.t = (o1.setM key.c (m.setG key.g (gp.setC key.n ⟨xa.a, { y with ans := if y.ans.isNone then some a else y.ans }⟩))).t := by
        rw [← put_ca (x' := ⟨xa.a, { y with ans := if y.ans.isNone then some a else y.ans }⟩) hm hgp hxa]
        congr 1
        show _ = MT.n xa.a .lst (List.map MT.d [dI y.first, dI y.last, dI y.lane, eOAns (if y.ans.isNone then some a else y.ans)])
        unfold CaA.ds
        rw [hxc]
        rfl
      rw [e]
      refine sjs_ret (ed_tup (ad_consd ed_str (ad_consd (ed_ic (ed_var 4) rfl) (ad_consd (ed_var 9) ad_nild)))) ⟨OW K (o1.setM key.c (m.setG key.g (gp.setC key.n ⟨xa.a, { y with ans := if y.ans.isNone then some a else y.ans }⟩))), rfl, hQ _ _ ha1 ?_⟩
      rw [hg]
      exact sim1.heard hm hgp hxa hclr hG hGy hxc sm hgc
end
end TC
set_option Elab.async false
set_option linter.all false
set_option maxRecDepth 100000
set_option maxHeartbeats 4000000
/-! The law's own machine: the fall of the house. -/
namespace TC
open PySem L2
/-- the tree while the rows are walked -/
def OwA.tf (o : OwA) (od : Obj) : MT := .n o.a (.dk oKeys) [.d (dI o.clock), .n o.fa .lst (o.folk.map MnA.t), .n o.la .lst (o.lanes.map LnA.t), dN o.ca (cKV o.cells), .n o.ba .lst ((o.book.map eBook).map MT.d), .n o.ra (.fz od (o.rows.map RwA.ky)) (o.rows.map RwA.t)]
def OwA.withR (o : OwA) (rs : List RwA) : OwA := { o with rows := rs }
structure FallR (r' r : RwA) : Prop where
  c : r'.c = r.c
  g : r'.g = r.g
  next : r'.next = r.next
  floor : r'.floor = r.floor
  ans : r'.answers = r.answers
  waits : r'.waits = []
theorem FallR.ky {r' r : RwA} (h : FallR r' r) : r'.ky = r.ky := by unfold RwA.ky; rw [h.c, h.g]
theorem paired_map {α β γ : Type} {F : α → β → Prop} {f : α → γ} {g : β → γ} (h : ∀ a b, F a b → f a = g b) : ∀ {as : List α} {bs : List β}, Paired F as bs → as.map f = bs.map g
  | _, _, .nil => rfl
  | _, _, .cons x t => by rw [List.map_cons, List.map_cons, h _ _ x, paired_map h t]
/-- d[k], k a tuple: raw -/
theorem ev_dgetT {X : Cx} {ρ : List Sl} {o e : Expr} {pos : Pos} {t : Addr} {ks : List L2.Key} {v : V} (hu : X.A.units + 1 < cLine) (hn : ks ≠ []) (ho : EV X ρ o (.r (.ref t))) (hk : ED X ρ e (keyDs ks)) (hf : HF X ρ fun H => ∃ kvs, Rd H t (.dT kvs) ∧ valV kvs ks = some v) (hs : NoSl e := by exact fun _ _ => rfl) : EV X ρ (.Subscript o e pos) (.r v) := fun σ H ev Q q =>
  wE_of (pe_dget hu pe_w pe_w hs) (ho σ H ev _ fun u H1 e1 o1 => hk σ H1 (ev.ex e1) _ fun w H2 e2 o2 => by
    cases (show u = .ref t from o1)
    obtain ⟨kvs, h1, h2⟩ := hf σ H2 (ev.ex (e1.tr e2))
    obtain ⟨b, rfl, hb⟩ := DT.key_at hn (show DT X.K H2 w (keyDs ks) from o2)
    exact ⟨t, v, rfl, .inr ⟨kvs, ks, b, h1, rfl, hb, h2.symm⟩, q v H2 (e1.tr e2) rfl⟩)
section
variable {X : Cx} {tg it : Expr} {body : List Stmt} {pos : Pos} {N : List Sl → Prop} {R : Sl → List Sl → Prop}
theorem sj_fall {o : OwA} {s1 s2 s3 s4 : Sl} (hc : X.calm = true) (hit : ∀ od, EV X [.w (.ref o.a) (TWd X.K (.ref o.a) (o.tf od)), s1, s2, s3, s4] it (.r (.ref o.ra))) (hg : ∀ d, GD X tg d [(4, d)])
    (turn : ∀ od (o1 : OwA) (i : Nat) (r : RwA), o1.a = o.a → o1.ra = o.ra → o1.rows[i]? = some r → (o1.rows.map RwA.pl).Nodup → SJs X [.w (.ref o.a) (TWd X.K (.ref o.a) (o1.tf od)), s1, s2, s3, .d (ePair (r.c, r.g))] body (fun ρ' => ∃ wa, ρ' = [.w (.ref o.a) (TWd X.K (.ref o.a) ((o1.withR (o1.rows.set i { r with wa := wa, waits := [] })).tf od)), s1, s2, s3, .d (ePair (r.c, r.g))]) (fun _ _ => False))
    (nd : (o.rows.map RwA.pl).Nodup) (hN : ∀ rs s4', Paired FallR rs o.rows → N [.w (.ref o.a) (OW X.K (o.withR rs)), s1, s2, s3, s4'])
    (hx : PassesOwn (model X.prog X.w) X.A X.env X.xe) (hs : ∀ x, foldedSetIterable it X.env x = pure x := by intro _; rfl) : SJ X [.w (.ref o.a) (OW X.K o), s1, s2, s3, s4] (.For tg it body [] pos) N R := fun B F σ H ev D k r => by
  have ok := (ev.env.sl 0 _ rfl).2
  have hat : MT.at_ [5] o.t = some (.n o.ra (.dt (o.rows.map RwA.ky)) (o.rows.map RwA.t)) := rfl
  obtain ⟨u, ru⟩ := ok.1.sub hat
  obtain ⟨rfl, ft, vs, h1, h2⟩ := ru.un
  obtain ⟨na, nc⟩ := List.nodup_cons.mp (show (o.ra :: MT.fps (o.rows.map RwA.t)).Nodup from at_nd hat ok.2)
  have hl : (o.rows.map RwA.ky).length = vs.length := by rw [h2.len]; exact ft
  have hl2 : o.rows.length = vs.length := by rw [← hl, List.length_map]
  refine wS_of (ps_lock (ps_for hx hc (pi_keys pe_w) pg_w pss_w hs)) ⟨o.ra, .dT ((o.rows.map RwA.ky).zip vs), h1, trivial, fun od => ?_⟩
  have ws := tree_ch (k' := .fz od (o.rows.map RwA.ky)) (cs' := o.rows.map RwA.t) (vs' := vs) ok hat (Ex.rf H) h2 ft nc (fun b m => .inl m)
  obtain ⟨W', hW, g2, g3⟩ := ws.nw
  have eW : W' = TWd X.K (.ref o.a) (o.tf od) := by
    rw [hW]
    congr 1
  subst eW
  have ev1 := ev.mutW (i := 0) (v := .ref o.a) rfl ws.off ws.tk g2 g3
  refine hit od σ _ ev1.env _ fun v H1 e1 o1 => ?_
  cases (show v = .ref o.ra from o1)
  have hf1 : H1 o.ra = some (.frz od (.dT ((o.rows.map RwA.ky).zip vs))) := e1 _ _ upd_same
  refine ⟨o.ra, od, rfl, .inr ⟨_, hf1, ?_⟩⟩
  refine for_it walk_keysT (fun i σ2 H2 => Tk H H2 ∧ H2 o.ra = some (.frz od (.dT ((o.rows.map RwA.ky).zip vs))) ∧ ∃ rs s4', rs.length = i ∧ Paired FallR rs (o.rows.take i) ∧ EnvB X.K B F H2 σ2 [.w (.ref o.a) (TWd X.K (.ref o.a) ((o.withR (rs ++ o.rows.drop i)).tf od)), s1, s2, s3, s4'])
    ⟨ws.tk.tr e1.te, hf1, [], s4, rfl, .nil, ev1.grow e1⟩ (fun _ _ _ _ z => z.2.1) (fun i x σ2 H2 H3 hi z y => ?_) fun σ2 H2 z => ?_
  · obtain ⟨t2, f2, rs, s4', hrs, hp, ev2⟩ := z
    obtain ⟨rfl, ks, u, q, hk, rfl, hq⟩ := y
    have hi' : i < o.rows.length := by
      rw [List.length_zip, hl, Nat.min_self, ← hl2] at hi
      exact hi
    obtain ⟨r, hr⟩ : ∃ r, o.rows[i]? = some r := ⟨_, List.getElem?_eq_getElem hi'⟩
    have hks : ks = r.ky := by
      rw [List.getElem?_zip_eq_some] at hk
      have := hk.1
      rw [List.getElem?_map, hr] at this
      exact (Option.some.inj this).symm
    subst hks
    have dq : DT X.K H3 (.ref q) (ePair (r.c, r.g)) := .tup ⟨fun z => (Bool.noConfusion (show false = true from z)), fun _ => hq⟩ (.cons (.int _) (.cons (.int _) .nil))
    refine hg _ σ2 H3 _ dq _ fun us okU => ?_
    have hr1 : (o.withR (rs ++ o.rows.drop i)).rows[i]? = some r := by
      show (rs ++ o.rows.drop i)[i]? = some r
      rw [List.getElem?_append_right (by omega), List.getElem?_drop, hrs]
      simpa using hr
    have epl : (rs ++ o.rows.drop i).map RwA.pl = o.rows.map RwA.pl := by
      rw [List.map_append, paired_map (g := RwA.pl) (fun a b h => by unfold RwA.pl; rw [h.c, h.g]) hp, ← List.map_append, List.take_append_drop]
    have ev3 : EnvB X.K B F H3 _ [.w (.ref o.a) (TWd X.K (.ref o.a) ((o.withR (rs ++ o.rows.drop i)).tf od)), s1, s2, s3, .d (ePair (r.c, r.g))] := okU.envB ev2
    refine turn od (o.withR (rs ++ o.rows.drop i)) i r rfl rfl hr1 (by show ((rs ++ o.rows.drop i).map RwA.pl).Nodup; rw [epl]; exact nd) B F _ H3 ev3 _ (fun σ4 H4 ρ4 ev4 t4 I4 => ?_) fun v H4 d4 e4 t4 o4 q4 => q4.elim
    obtain ⟨wa, rfl⟩ := I4
    have eset : (rs ++ o.rows.drop i).set i { r with wa := wa, waits := [] } = (rs ++ [{ r with wa := wa, waits := [] }]) ++ o.rows.drop (i + 1) := by
      rw [List.set_append_right _ _ (by omega), hrs, Nat.sub_self, drop_at hr]
      simp
    have fr : FallR { r with wa := wa, waits := [] } r := ⟨rfl, rfl, rfl, rfl, rfl, rfl⟩
    have hp2 : Paired FallR (rs ++ [{ r with wa := wa, waits := [] }]) (o.rows.take (i + 1)) := by
      rw [take_snoc hr]
      exact paired_snoc hp fr
    have ev4' : EnvB X.K B F H4 σ4 [.w (.ref o.a) (TWd X.K (.ref o.a) ((o.withR ((rs ++ [{ r with wa := wa, waits := [] }]) ++ o.rows.drop (i + 1))).tf od)), s1, s2, s3, .d (ePair (r.c, r.g))] := by
      rw [← eset]
      exact ev4
    refine ⟨t2.tr t4, ?_, _, _, by simp [hrs], hp2, ev4'⟩
    -- the walked dict is as it was
    have ok4 := (ev4'.env.sl 0 _ rfl).2
    have hat4 : MT.at_ [5] ((o.withR ((rs ++ [{ r with wa := wa, waits := [] }]) ++ o.rows.drop (i + 1))).tf od) = some (.n o.ra (.fz od (((rs ++ [{ r with wa := wa, waits := [] }]) ++ o.rows.drop (i + 1)).map RwA.ky)) (((rs ++ [{ r with wa := wa, waits := [] }]) ++ o.rows.drop (i + 1)).map RwA.t)) := rfl
    have ok3 := (ev3.env.sl 0 _ rfl).2
    obtain ⟨u4, ru4⟩ := ok4.1.sub hat4
    obtain ⟨_, ft4, vs4, k4, r4⟩ := ru4.un
    have hat3 : MT.at_ [5] ((o.withR (rs ++ o.rows.drop i)).tf od) = some (.n o.ra (.fz od ((rs ++ o.rows.drop i).map RwA.ky)) ((rs ++ o.rows.drop i).map RwA.t)) := rfl
    obtain ⟨u3, ru3⟩ := ok3.1.sub hat3
    obtain ⟨_, ft3, vs3, k3, r3⟩ := ru3.un
    have eky : ((rs ++ [{ r with wa := wa, waits := [] }]) ++ o.rows.drop (i + 1)).map RwA.ky = o.rows.map RwA.ky := by
      rw [List.map_append, paired_map (g := RwA.ky) (fun a b h => h.ky) hp2, ← List.map_append, List.take_append_drop]
    have eky3 : (rs ++ o.rows.drop i).map RwA.ky = o.rows.map RwA.ky := by
      rw [List.map_append, paired_map (g := RwA.ky) (fun a b h => h.ky) hp, ← List.map_append, List.take_append_drop]
    have refs : ∀ {H' : Hp} {ws : List V} {qs : List RwA}, Rps X.K H' ws (qs.map RwA.t) → ws = qs.map fun r => V.ref r.a := fun {H' ws qs} h => by
      induction qs generalizing ws with
      | nil => cases h; rfl
      | cons a qs ih =>
        cases h with
        | cons x t =>
          have := x.un.1
          rw [List.map_cons, ih t, this]
    have ev34 : vs4 = vs3 := by
      rw [refs r4, refs r3, ← eset, List.map_set]
      have hi3 : i < ((rs ++ o.rows.drop i).map fun r => V.ref r.a).length := by
        rw [List.length_map]
        exact (List.getElem?_eq_some_iff.mp hr1).1
      have e5 : ((rs ++ o.rows.drop i).map fun r => V.ref r.a)[i]'hi3 = V.ref r.a := by
        rw [List.getElem_map]
        have := (List.getElem?_eq_some_iff.mp hr1).2
        exact congrArg (fun z => V.ref z.a) this
      show ((rs ++ o.rows.drop i).map fun r => V.ref r.a).set i (V.ref r.a) = _
      conv => lhs; rw [← e5]
      exact List.set_getElem_self hi3
    rw [k4]
    rw [f2] at k3
    rw [eky, ev34]
    rw [eky3] at k3
    exact k3.symm
  · obtain ⟨t2, f2, rs, s4', hrs, hp, ev2⟩ := z
    have hlen : ((o.rows.map RwA.ky).zip vs).length = o.rows.length := by rw [List.length_zip, hl, Nat.min_self, ← hl2]
    rw [hlen] at hrs hp ev2
    rw [List.take_length] at hp
    rw [List.drop_length, List.append_nil] at ev2
    have ok2 := (ev2.env.sl 0 _ rfl).2
    have hat2 : MT.at_ [5] ((o.withR rs).tf od) = some (.n o.ra (.fz od (rs.map RwA.ky)) (rs.map RwA.t)) := rfl
    obtain ⟨u2, ru2⟩ := ok2.1.sub hat2
    obtain ⟨_, ft2, vs2, k2, r2⟩ := ru2.un
    obtain ⟨na2, nc2⟩ := List.nodup_cons.mp (show (o.ra :: MT.fps (rs.map RwA.t)).Nodup from at_nd hat2 ok2.2)
    have eky : rs.map RwA.ky = o.rows.map RwA.ky := paired_map (fun a b h => h.ky) hp
    have eob : (Knd.dt (rs.map RwA.ky)).ob vs2 = .dT ((o.rows.map RwA.ky).zip vs) := by
      have k2 := k2.symm.trans f2
      have := Option.some.inj k2
      injection this with _ q
    have ws2 := tree_ch (k' := .dt (rs.map RwA.ky)) (cs' := rs.map RwA.t) (vs' := vs2) ok2 hat2 (Ex.rf H2) r2 ft2 nc2 (fun b m => .inl m)
    rw [eob] at ws2
    obtain ⟨W', hW, g2', g3'⟩ := ws2.nw
    have eW : W' = OW X.K (o.withR rs) := by
      rw [hW]
      show TWd X.K (.ref o.a) _ = TWd X.K (.ref o.a) _
      congr 1
    subst eW
    have ev3 := ev2.mutW (i := 0) (v := .ref o.a) rfl ws2.off ws2.tk g2' g3'
    exact ⟨f2, k _ _ _ ev3 (t2.tr ws2.tk) (hN rs s4' hp)⟩
end
end TC
set_option Elab.async false
set_option linter.all false
set_option maxRecDepth 100000
set_option maxHeartbeats 4000000
/-! The law's own machine: a step. -/
namespace TC
open PySem L2
theorem Sim.fall {o : OwA} {st : State} (h : Sim o st) {rs : List RwA} (hp : Paired FallR rs o.rows) : Sim (o.withR rs) { st with house := fallenS st.house } := by
  have epl : rs.map RwA.pl = o.rows.map RwA.pl := paired_map (fun a b h => by unfold RwA.pl; rw [h.c, h.g]) hp
  refine ⟨h.clock, h.folk, h.lanes, h.book, h.cells, h.clen, fun c g => ?_, by show (rs.map RwA.pl).Nodup; rw [epl]; exact h.rnd, ?_⟩
  · have e1 : rowAt (fallenS st.house).rows c g = (rowAt st.house.rows c g).map fun r => { r with waiting := [] } := by
      unfold rowAt fallenS
      simp only
      rw [List.find?_map]
      rfl
    have e2 : ∀ {rs os : List RwA}, Paired FallR rs os → (findR rs c g = none ∧ findR os c g = none) ∨ ∃ r' r, findR rs c g = some r' ∧ findR os c g = some r ∧ FallR r' r := by
      intro rs os hp
      induction hp with
      | nil => exact .inl ⟨rfl, rfl⟩
      | @cons a b as bs x t ih =>
        have hpl : a.pl = b.pl := by unfold RwA.pl; rw [x.c, x.g]
        unfold findR at ih ⊢
        rw [List.find?_cons, List.find?_cons, hpl]
        by_cases q : b.pl = (c, g)
        · simp only [q, decide_true]
          exact .inr ⟨a, b, rfl, rfl, x⟩
        · simp only [q, decide_false]
          exact ih
    show (findR rs c g = none ∧ rowAt (fallenS st.house).rows c g = none) ∨ ∃ r q, findR rs c g = some r ∧ rowAt (fallenS st.house).rows c g = some q ∧ SimR r q
    rw [e1]
    rcases e2 hp with ⟨q1, q2⟩ | ⟨r', r, q1, q2, q3⟩
    · rcases h.rows c g with ⟨z1, z2⟩ | ⟨r, q, z1, z2, z3⟩
      · exact .inl ⟨q1, by rw [z2]; rfl⟩
      · rw [q2] at z1; cases z1
    · rcases h.rows c g with ⟨z1, z2⟩ | ⟨r2, q, z1, z2, z3⟩
      · rw [q2] at z1; cases z1
      · rw [q2] at z1
        cases z1
        refine .inr ⟨r', { q with waiting := [] }, q1, by rw [z2]; rfl, q3.c.trans z3.c, q3.g.trans z3.g, q3.next.trans z3.next, q3.floor.trans z3.floor, by rw [q3.ans, q3.next]; exact z3.len, by rw [q3.ans, q3.floor]; exact z3.ans, ?_⟩
        show r'.waits.Perm []
        rw [q3.waits]
  · show rs.length = (st.house.rows.map _).length
    rw [Paired.length hp, h.rlen, List.length_map]
theorem put_clock {o : OwA} {n : Nat} : MT.put (.n o.a (.dk oKeys) ([.d (dI o.clock), .n o.fa .lst (o.folk.map MnA.t), .n o.la .lst (o.lanes.map LnA.t), dN o.ca (cKV o.cells), .n o.ba .lst ((o.book.map eBook).map MT.d), .n o.ra (.dt (o.rows.map RwA.ky)) (o.rows.map RwA.t)].set 0 (.d (dI n)))) [] o.t = ({ o with clock := n } : OwA).t := rfl
theorem put_lanes {o : OwA} {l : Nat} {q : Addr} : MT.put (.n o.la .lst ((o.lanes.map LnA.t).set l (.n q .lst (([] : List PyData).map MT.d)))) [2] o.t = (o.setL l ⟨q, []⟩).t := by
  simp [MT.put, OwA.t, OwA.setL, List.map_set, LnA.t]
section
variable {P : Program} {w : World} {K : PySem.W.Frag} {mg : Str → Option Value} {base : Heap}
theorem sc_lstep : FnScope ["_law_own", "_law_deal_here", "_law_act_here", "_law_word", "_law_place_now"] ["_law_own", "_law_deal_here", "_law_act_here"] (defScope (top 84)) := ⟨rfl, rfl, rfl, by decide +kernel, rfl, by decide +kernel, by decide +kernel⟩
def R_lstep (K : PySem.W.Frag) (xs : List Sl) (Q : Sl → Wld → Prop) : Prop := ∃ (S : Setting) (st : State) (o : OwA) (x : Step), xs = [.w (.ref o.a) (OW K o), .d (eSetting S), .d (eStep x)] ∧ WfS S ∧ Sim o st ∧ Wf S st ∧ Szs st ∧ Can S st x ∧
  ∀ (d : PyData) (o' : OwA), o'.a = o.a → Sim o' (stepS S st x) → Q (.d d) (OW K o')
theorem c_lstep (T : Bl mg) (O : Own K mg "_law_step" (defD "_law_step" (top 84)) []) (cg : Cal P w K mg base 3 "_law_go" (MSp K (R_lgo K)) []) (ct : Cal P w K mg base 2 "_law_get" (MSp K (R_lget K)) []) : Cal P w K mg base 4 "_law_step" (MSp K (R_lstep K)) [] := by
  refine cal_mut O sc_lstep ?_ (by decide) (fun _ _ _ _ _ _ us hl => match us, hl with | [_, _, _], _ => rfl) ?_
  · rintro xs Q ⟨S, st, o, x, rfl, _⟩; rfl
  · rintro f cdv A outer s H E hr v W xs Q ⟨S, st, o, x, e, ws, sim, wf, zs, can, hQ⟩
    cases e
    have hsz := sz
    have nd := sc_lstep.nd
    have hu := roomU hr
    have hu1 : (A.deeper (PyProof.Rows.envOfC "_law_step" (defScope (top 84)) s.heap.objs.size f cdv)).units + 1 < cLine := by omega
    cases x with
    | go c =>
      refine sjs_set 3 (y := .d (.str "go")) (ed_ic (ed_var 2) rfl) ?_ nd
      refine sjs_takeR (td_is (td_eqS (ed_var 3) ed_str) (m := true) (by decide +kernel)) ?_
      refine sjs_retW (R := fun d ρ' => ∃ o' : OwA, o'.a = o.a ∧ Sim o' (stepS S st (.go c)) ∧ ρ'[0]? = some (.w (.ref o.a) (OW K o'))) (ew_eo (i := 0) (v := .ref o.a) (W := OW K o) rfl (eo_call (P := fun d W' => ∃ o' : OwA, o'.a = o.a ∧ Sim o' (stepS S st (.go c)) ∧ W' = OW K o') (PP := fun z W' => ∃ (d : PyData) (o' : OwA), z = .d d ∧ o'.a = o.a ∧ Sim o' (stepS S st (.go c)) ∧ W' = OW K o') (xs := [.d (eSetting S), .d (dI c)]) cg hr rfl (ad_cons (ev_w 0) (ad_cons (ed_var 1) (ad_cons (ed_ic (ed_var 2) rfl) ad_nil))) (fun z hz => ?_) ⟨S, st, o, c, rfl, ws, sim, wf, zs, can, fun d o' h1 h2 => ⟨d, o', rfl, h1, h2, rfl⟩⟩ (fun z W' h => ?_)) (fun d W' h => ?_)) (fun d ρ' h => ?_)
      · simp only [List.mem_cons, List.not_mem_nil, or_false] at hz
        rcases hz with rfl | rfl <;> exact ⟨_, rfl⟩
      · obtain ⟨d, o', rfl, h1, h2, rfl⟩ := h
        exact ⟨d, rfl, o', h1, h2, rfl⟩
      · obtain ⟨o', h1, h2, rfl⟩ := h
        exact ⟨o', h1, h2, rfl⟩
      · obtain ⟨o', h1, h2, h3⟩ := h
        exact ⟨OW K o', h3, hQ d o' h1 h2⟩
    | get l k =>
      refine sjs_set 3 (y := .d (.str "get")) (ed_ic (ed_var 2) rfl) ?_ nd
      refine sjs_skip (td_is (td_eqS (ed_var 3) ed_str) (m := false) (by decide +kernel)) ?_
      refine sjs_takeR (td_is (td_eqS (ed_var 3) ed_str) (m := true) (by decide +kernel)) ?_
      refine sjs_retW (R := fun d ρ' => ∃ o' : OwA, o'.a = o.a ∧ Sim o' (stepS S st (.get l k)) ∧ ρ'[0]? = some (.w (.ref o.a) (OW K o'))) (ew_eo (i := 0) (v := .ref o.a) (W := OW K o) rfl (eo_call (P := fun d W' => ∃ o' : OwA, o'.a = o.a ∧ Sim o' (stepS S st (.get l k)) ∧ W' = OW K o') (PP := fun z W' => ∃ (d : PyData) (o' : OwA), z = .d d ∧ o'.a = o.a ∧ Sim o' (stepS S st (.get l k)) ∧ W' = OW K o') (xs := [.d (eSetting S), .d (dI l), .d (dI k)]) ct hr rfl (ad_cons (ev_w 0) (ad_cons (ed_var 1) (ad_cons (ed_ic (ed_var 2) rfl) (ad_cons (ed_ic (ed_var 2) rfl) ad_nil)))) (fun z hz => ?_) ⟨S, st, o, l, k, rfl, ws, sim, wf, zs, can.1, can.2, fun d o' h1 h2 => ⟨d, o', rfl, h1, h2, rfl⟩⟩ (fun z W' h => ?_)) (fun d W' h => ?_)) (fun d ρ' h => ?_)
      · simp only [List.mem_cons, List.not_mem_nil, or_false] at hz
        rcases hz with rfl | rfl | rfl <;> exact ⟨_, rfl⟩
      · obtain ⟨d, o', rfl, h1, h2, rfl⟩ := h
        exact ⟨d, rfl, o', h1, h2, rfl⟩
      · obtain ⟨o', h1, h2, rfl⟩ := h
        exact ⟨o', h1, h2, rfl⟩
      · obtain ⟨o', h1, h2, h3⟩ := h
        exact ⟨OW K o', h3, hQ d o' h1 h2⟩
    | lose l k =>
      obtain ⟨ln, hln, hls⟩ := sim.lane_at (l := l) (by rw [wf.nl]; exact can.1)
      obtain ⟨x, hx, hlet⟩ := letter_at can.2
      have hxl : (ln.ls.map eLetter)[k]? = some (eLetter x) := by rw [List.getElem?_map, hls, hx]; rfl
      have hkb : k < 100000 := by
        have := can.2
        have h2 : (lane st l).length ≤ 100000 := by
          unfold lane
          cases e : st.lanes[l]? with
          | none => simp
          | some L => exact zs.lanes L (List.mem_of_getElem? e)
        omega
      refine sjs_set 3 (y := .d (.str "lose")) (ed_ic (ed_var 2) rfl) ?_ nd
      refine sjs_skip (td_is (td_eqS (ed_var 3) ed_str) (m := false) (by decide +kernel)) ?_
      refine sjs_skip (td_is (td_eqS (ed_var 3) ed_str) (m := false) (by decide +kernel)) ?_
      refine sjs_take (M := fun ρ => ρ = [.w (.ref o.a) (OW K (o.setL l { ln with ls := ln.ls.eraseIdx k })), .d (eSetting S), .d (eStep (.lose l k)), .d (.str "lose"), .no]) (td_is (td_eqS (ed_var 3) ed_str) (m := true) (by decide +kernel)) (sjs_exprW (RR := fun d ρ' => ρ' = [.w (.ref o.a) (OW K (o.setL l { ln with ls := ln.ls.eraseIdx k })), .d (eSetting S), .d (eStep (.lose l k)), .d (.str "lose"), .no]) (ew_tpop 0 (pth := [2, l]) (ds := ln.ls.map eLetter) (j := k) (d := eLetter x) rfl (ev_oln (hf_w 0) hln (ev_olanes hu1 (hf_w 0) (ev_w 0)) (ed_ic (ed_var 2) rfl)) (ed_ic (ed_var 2) rfl) (at_ln hln) hxl ?_ (by omega)) (fun d ρ' h => by subst h; exact sjs_nil rfl)) ?_
      · have e : MT.put (.n ln.a .lst (((ln.ls.map eLetter).eraseIdx k).map MT.d)) [2, l] o.t = (o.setL l { ln with ls := ln.ls.eraseIdx k }).t := by
          rw [← put_ln (l' := { ln with ls := ln.ls.eraseIdx k }) hln]
          congr 1
          show _ = MT.n ln.a .lst (((ln.ls.eraseIdx k).map eLetter).map MT.d)
          rw [erase_map]
        rw [e]
        rfl
      rintro ρ rfl
      refine sjs_skip (td_is (td_eqS (ed_var 3) ed_str) (m := false) (by decide +kernel)) ?_
      refine sjs_skip (td_is (td_eqS (ed_var 3) ed_str) (m := false) (by decide +kernel)) ?_
      refine sjs_skip (td_is (td_eqS (ed_var 3) ed_str) (m := false) (by decide +kernel)) ?_
      refine sjs_skip (td_is (td_eqS (ed_var 3) ed_str) (m := false) (by decide +kernel)) ?_
      exact sjs_ret (ed_tup (ad_consd (ed_var 3) ad_nild)) ⟨_, rfl, hQ _ _ rfl (sim.without hls)⟩
    | double l k =>
      obtain ⟨ln, hln, hls⟩ := sim.lane_at (l := l) (by rw [wf.nl]; exact can.1)
      obtain ⟨x, hx, hlet⟩ := letter_at can.2
      have hxl : ((ln.ls.map eLetter).map MT.d)[k]? = some (.d (eLetter x)) := by rw [List.getElem?_map, List.getElem?_map, hls, hx]; rfl
      have hll : (lane st l).length ≤ 100000 := by
        unfold lane
        cases e : st.lanes[l]? with
        | none => simp
        | some L => exact zs.lanes L (List.mem_of_getElem? e)
      refine sjs_set 3 (y := .d (.str "double")) (ed_ic (ed_var 2) rfl) ?_ nd
      refine sjs_skip (td_is (td_eqS (ed_var 3) ed_str) (m := false) (by decide +kernel)) ?_
      refine sjs_skip (td_is (td_eqS (ed_var 3) ed_str) (m := false) (by decide +kernel)) ?_
      refine sjs_skip (td_is (td_eqS (ed_var 3) ed_str) (m := false) (by decide +kernel)) ?_
      refine sjs_take (M := fun ρ => ρ = [.w (.ref o.a) (OW K (o.setL l { ln with ls := ln.ls ++ [x] })), .d (eSetting S), .d (eStep (.double l k)), .d (.str "double"), .no]) (td_is (td_eqS (ed_var 3) ed_str) (m := true) (by decide +kernel)) (sjs_tapp 0 (pth := [2, l]) rfl (ev_oln (hf_w 0) hln (ev_olanes hu1 (hf_w 0) (ev_w 0)) (ed_ic (ed_var 2) rfl)) (en_d (d := eLetter x) (EV.eq (ev_idx (t := ln.a) (cs := (ln.ls.map eLetter).map MT.d) (n := k) (ev_oln (hf_w 0) hln (ev_olanes hu1 (hf_w 0) (ev_w 0)) (ed_ic (ed_var 2) rfl)) (ed_ic (ed_var 2) rfl) (at_lnA (hf_w 0) hln) hxl) rfl)) (at_ln hln) (by rw [List.length_map, List.length_map, hls]; omega) (fun z hz => ?_)) ?_
      · subst hz
        have e : MT.put (.n ln.a .lst (((ln.ls.map eLetter).map MT.d) ++ [.d (eLetter x)])) [2, l] o.t = (o.setL l { ln with ls := ln.ls ++ [x] }).t := by
          rw [← put_ln (l' := { ln with ls := ln.ls ++ [x] }) hln]
          congr 1
          simp [LnA.t]
        rw [e]
        exact sjs_nil rfl
      rintro ρ rfl
      refine sjs_skip (td_is (td_eqS (ed_var 3) ed_str) (m := false) (by decide +kernel)) ?_
      refine sjs_skip (td_is (td_eqS (ed_var 3) ed_str) (m := false) (by decide +kernel)) ?_
      refine sjs_skip (td_is (td_eqS (ed_var 3) ed_str) (m := false) (by decide +kernel)) ?_
      refine sjs_ret (ed_tup (ad_consd (ed_var 3) ad_nild)) ⟨_, rfl, hQ _ _ rfl ?_⟩
      show Sim _ (sentS st l ((letterAt st l k).getD noLetter))
      rw [hlet]
      exact sim.setL (by show ln.ls ++ [x] = _; rw [hls])
    | tick =>
      refine sjs_set 3 (y := .d (.str "tick")) (ed_ic (ed_var 2) rfl) ?_ nd
      refine sjs_skip (td_is (td_eqS (ed_var 3) ed_str) (m := false) (by decide +kernel)) ?_
      refine sjs_skip (td_is (td_eqS (ed_var 3) ed_str) (m := false) (by decide +kernel)) ?_
      refine sjs_skip (td_is (td_eqS (ed_var 3) ed_str) (m := false) (by decide +kernel)) ?_
      refine sjs_skip (td_is (td_eqS (ed_var 3) ed_str) (m := false) (by decide +kernel)) ?_
      refine sjs_take (M := fun ρ => ρ = [.w (.ref o.a) (OW K { o with clock := o.clock + 1 }), .d (eSetting S), .d (eStep .tick), .d (.str "tick"), .no]) (td_is (td_eqS (ed_var 3) ed_str) (m := true) (by decide +kernel)) (sjs_tkey 0 (pth := []) (ks := oKeys) (k := .inr "clock") (j := 0) (Φ := (· = .d (dI (o.clock + 1)))) hu1 rfl (ev_w 0) ed_str (en_d (ed_addn (ed_oclock hu1 (hf_w 0) (ev_w 0)) ed_k)) rfl (fun z hz => ?_) (by decide +kernel)) ?_
      · subst hz
        rw [put_clock]
        exact sjs_nil rfl
      rintro ρ rfl
      refine sjs_skip (td_is (td_eqS (ed_var 3) ed_str) (m := false) (by decide +kernel)) ?_
      refine sjs_skip (td_is (td_eqS (ed_var 3) ed_str) (m := false) (by decide +kernel)) ?_
      refine sjs_ret (ed_tup (ad_consd (ed_var 3) ad_nild)) ⟨_, rfl, hQ _ _ rfl ?_⟩
      exact ⟨by show o.clock + 1 = st.clock + 1; rw [sim.clock], sim.folk, sim.lanes, sim.book, sim.cells, sim.clen, sim.rows, sim.rnd, sim.rlen⟩
    | tear l =>
      obtain ⟨ln, hln, hls⟩ := sim.lane_at (l := l) (by rw [wf.nl]; exact can)
      have hll := (List.getElem?_eq_some_iff.mp hln).1
      refine sjs_set 3 (y := .d (.str "tear")) (ed_ic (ed_var 2) rfl) ?_ nd
      refine sjs_skip (td_is (td_eqS (ed_var 3) ed_str) (m := false) (by decide +kernel)) ?_
      refine sjs_skip (td_is (td_eqS (ed_var 3) ed_str) (m := false) (by decide +kernel)) ?_
      refine sjs_skip (td_is (td_eqS (ed_var 3) ed_str) (m := false) (by decide +kernel)) ?_
      refine sjs_skip (td_is (td_eqS (ed_var 3) ed_str) (m := false) (by decide +kernel)) ?_
      refine sjs_skip (td_is (td_eqS (ed_var 3) ed_str) (m := false) (by decide +kernel)) ?_
      refine sjs_take (M := fun ρ => ∃ q, ρ = [.w (.ref o.a) (OW K (o.setL l ⟨q, []⟩)), .d (eSetting S), .d (eStep (.tear l)), .d (.str "tear"), .no]) (td_is (td_eqS (ed_var 3) ed_str) (m := true) (by decide +kernel)) (sjs_tidx 0 (pth := [2]) (q := o.la) (cs := o.lanes.map LnA.t) (j := l) rfl (ev_olanes hu1 (hf_w 0) (ev_w 0)) (ed_ic (ed_var 2) rfl) (en_l (ds := []) (ev_lst ad_nild)) rfl (by rw [List.length_map]; exact hll) (fun z hz => ?_)) ?_
      · obtain ⟨q, rfl⟩ := hz
        rw [put_lanes]
        exact sjs_nil ⟨q, rfl⟩
      rintro ρ ⟨q, rfl⟩
      refine sjs_skip (td_is (td_eqS (ed_var 3) ed_str) (m := false) (by decide +kernel)) ?_
      exact sjs_ret (ed_tup (ad_consd (ed_var 3) ad_nild)) ⟨_, rfl, hQ _ _ rfl (sim.setL rfl)⟩
    | fall =>
      refine sjs_set 3 (y := .d (.str "fall")) (ed_ic (ed_var 2) rfl) ?_ nd
      refine sjs_skip (td_is (td_eqS (ed_var 3) ed_str) (m := false) (by decide +kernel)) ?_
      refine sjs_skip (td_is (td_eqS (ed_var 3) ed_str) (m := false) (by decide +kernel)) ?_
      refine sjs_skip (td_is (td_eqS (ed_var 3) ed_str) (m := false) (by decide +kernel)) ?_
      refine sjs_skip (td_is (td_eqS (ed_var 3) ed_str) (m := false) (by decide +kernel)) ?_
      refine sjs_skip (td_is (td_eqS (ed_var 3) ed_str) (m := false) (by decide +kernel)) ?_
      refine sjs_skip (td_is (td_eqS (ed_var 3) ed_str) (m := false) (by decide +kernel)) ?_
      refine sjs_take (M := fun ρ => ∃ rs s4, Paired FallR rs o.rows ∧ ρ = [.w (.ref o.a) (OW K (o.withR rs)), .d (eSetting S), .d (eStep .fall), .d (.str "fall"), s4]) (td_is (td_eqS (ed_var 3) ed_str) (m := true) (by decide +kernel)) (sjs_one (sj_fall rfl (fun od => EV.eq (ev_key (k := .inr "rows") (i := 5) (ks := oKeys) hu1 (ev_w 0) ed_str (At.mk [] (hf_w 0)) (by decide +kernel) rfl) rfl) (fun d => gd_name 4 nd) (fun od o1 i r ha hra hri hnd => ?_) sim.rnd (fun rs s4 hp => ⟨rs, s4, hp, rfl⟩) PassesOwn.never)) ?_
      · rw [← ha]
        have hat : MT.at_ [5, i] (o1.tf od) = some r.t := by simp [MT.at_, OwA.tf, hri]
        refine sjs_tkey 0 (pth := [5, i]) (q := r.a) (ks := rKeys) (cs := [.d (dI r.next), .d (dI r.floor), .n r.aa .lst ((r.answers.map eAns).map MT.d), dN r.wa (wKV r.waits)]) (k := .inr "waits") (j := 3) hu1 rfl (ev_dgetT (t := o1.ra) (ks := [.inl (r.c : Int), .inl (r.g : Int)]) hu1 (by intro q; cases q) (EV.eq (ev_key (k := .inr "rows") (i := 5) (ks := oKeys) hu1 (ev_w 0) ed_str (At.mk [] (hf_w 0)) (by decide +kernel) rfl) rfl) (ed_var 4) (fun σ H ev => ?_)) ed_str en_dk hat (fun z hz => ?_) (by decide +kernel)
        · obtain ⟨f5, vs, g5, r5⟩ := At.mk (t := o1.tf od) (a := o1.ra) (k := .fz od (o1.rows.map RwA.ky)) (cs := o1.rows.map RwA.t) [5] (hf_w 0 rfl) rfl σ H ev
          refine ⟨_, .inr ⟨od, g5⟩, ?_⟩
          obtain ⟨u, hu5, ru5⟩ := r5.at_ (i := i) (c := r.t) (by rw [List.getElem?_map, hri]; rfl)
          have hu6 : u = V.ref r.a := ru5.un.1
          rcases find_ix r.c r.g o1.rows with ⟨q1, q2⟩ | ⟨i', r', q1, q2, q3, q4⟩
          · exfalso
            unfold findR at q1
            rw [List.find?_eq_none] at q1
            exact q1 r (List.mem_of_getElem? hri) (decide_eq_true rfl)
          · have ei : i' = i := nd_inj hnd q2 hri (by rw [q3]; rfl)
            subst ei
            rw [← hu6]
            exact valV_zip q4 hu5 (by rw [r5.len]; exact f5)
        · obtain ⟨q, rfl⟩ := hz
          refine sjs_nil ⟨q, ?_⟩
          have e : MT.put (.n r.a (.dk rKeys) ([.d (dI r.next), .d (dI r.floor), .n r.aa .lst ((r.answers.map eAns).map MT.d), dN r.wa (wKV r.waits)].set 3 (.n q (.dk []) []))) [5, i] (o1.tf od) = (o1.withR (o1.rows.set i { r with wa := q, waits := [] })).tf od := by
            have hi := (List.getElem?_eq_some_iff.mp hri).1
            have hky : ((o1.rows.map RwA.ky).set i (RwA.ky { r with wa := q, waits := [] })) = o1.rows.map RwA.ky := by
              have e0 : (o1.rows.map RwA.ky)[i]'(by rw [List.length_map]; exact hi) = RwA.ky { r with wa := q, waits := [] } := by
                rw [List.getElem_map, (List.getElem?_eq_some_iff.mp hri).2]
                rfl
              rw [← e0]
              exact List.set_getElem_self _
            simp [MT.put, OwA.tf, OwA.withR, hri, List.map_set, hky, RwA.t, dN, wKV]
          rw [e]
          rfl
      rintro ρ ⟨rs, s4, hp, rfl⟩
      exact sjs_ret (ed_tup (ad_consd (ed_var 3) ad_nild)) ⟨_, rfl, hQ _ _ rfl (sim.fall hp)⟩
end
end TC
set_option Elab.async false
set_option linter.all false
set_option maxRecDepth 100000
set_option maxHeartbeats 4000000
/-! Trees, part 5: made by comprehensions; one moved into another. -/
namespace TC
open PySem L2
section
variable {X : Cx} {ρ : List Sl} {elt tg iter : Expr} {scope : Scope} {own : List (Str × Nat)} {pos spos py : Pos} {ds : List PyData} {rest : List Stmt} {N : List Sl → Prop} {R : Sl → List Sl → Prop}
theorem lc_trees {wi : TI} (hi : ∀ σ H, Env X.K H σ ρ → ∀ R : It → Hp → Prop, (∀ J H', Ex H H' → Walk J ds.length (fun H2 => Ex H' H2) (YD X.K ds) → R J H') → wi σ H R) (Φ : PyData → MT → Prop) (hz : ds.length ≤ sizeLine)
    (turn : ∀ d, d ∈ ds → ∃ ps, (BL X scope fun Y => GD Y tg d ps) ∧ (∀ p ∈ ps, p.1 ∈ own.map (·.2)) ∧ BL X scope fun Y => EN Y (setsD ps (wipeS ρ (own.map (·.2)))) elt (Φ d)) {σ : L2.St} {H : Hp} (ev : Env X.K H σ ρ) {Q : VK}
    (q : ∀ v H' c, Ex H H' → Rp X.K H' v c → (∀ b ∈ c.fp, H b = none) → c.fp.Nodup → (∃ p cs, c = .n p .lst cs ∧ Paired Φ ds cs) → Q v H') :
    tLc wi (bG X scope tg) tYes (bE X scope elt) (own.map (·.2)) σ H Q := by
  refine hi σ H ev _ fun J H1 e1 w => fun D hD => ?_
  refine lc_it (Y := YD X.K ds) (n := ds.length) (G := fun H2 => Ex H1 H2) w (fun i H2 => Ex H1 H2 ∧ ∃ acc cs, H2 D = some (.lst acc) ∧ acc.length ≤ i ∧ Rps X.K H2 acc cs ∧ (∀ b ∈ MT.fps cs, H1 b = none) ∧ D ∉ MT.fps cs ∧ (MT.fps cs).Nodup ∧ Paired Φ (ds.take i) cs) ⟨Ex.up hD, [], [], upd_same, Nat.le_refl _, .nil, (fun b m => by simp [MT.fps] at m), (by simp [MT.fps]), (by simp [MT.fps]), .nil⟩ (fun _ _ _ p => p.1) (fun i x H2 H3 hi p y => ?_) fun H2 p => ?_
  · obtain ⟨p1, acc, cs, p2, p3, p4, p5, p6, p7, p8⟩ := p
    obtain ⟨e3, d, hd, hx⟩ := y
    obtain ⟨ps, g1, g2, te⟩ := turn d (List.mem_of_getElem? hd)
    refine fun s0 H0 C cl fp => g1 s0 H0 C cl fp _ H3 x hx _ fun us ok => ?_
    refine ⟨(wipe_sets (ok.fst g2)).trans wipe_wipe, fun s1 H1' C1 cl1 fp1 => te s1 H1' C1 cl1 fp1 _ H3 (ok.env ((ev.ex ((e1.tr p1).tr e3)).wipe _)) _ fun v H5 c e5 r5 fr5 nd5 hc => ?_⟩
    have h3 := e3 _ _ p2
    have hl := e5 _ _ h3
    have tk : Tk H5 (upd H5 D (.lst (acc ++ [v]))) := Tk.upl hl
    have r3 := p4.ex e3
    have cD : D ∉ c.fp := fun m => by
      have := fr5 D m
      rw [h3] at this; cases this
    refine ⟨acc, hl, Nat.lt_of_le_of_lt p3 (Nat.lt_of_lt_of_le hi hz), ((p1.tr e3).tr e5).at_ hD, acc ++ [v], cs ++ [c], upd_same, by simp; omega, ?_, fun b m => ?_, ?_, ?_, ?_⟩
    · refine Rps.app ((r3.ex e5).stay (fun b m => upd_ne fun z => p6 (by rw [← z]; exact m)) tk) (.one (r5.stay (fun b m => upd_ne fun z => cD (by rw [← z]; exact m)) tk))
    · rw [fps_app] at m
      rcases List.mem_append.mp m with m | m
      · exact p5 b m
      · exact (p1.tr e3).back (fr5 b (by simpa [MT.fps] using m))
    · rw [fps_app]
      intro m
      rcases List.mem_append.mp m with m | m
      · exact p6 m
      · exact cD (by simpa [MT.fps] using m)
    · exact fps_app_nd p7 nd5 fun b m z => by
        obtain ⟨oo, ho⟩ := r3.dom b z
        rw [fr5 b m] at ho; cases ho
    · have e0 : ds.take (i + 1) = ds.take i ++ [d] := by rw [List.take_add_one, hd]; rfl
      rw [e0]
      exact paired_snoc p8 hc
  · obtain ⟨p1, acc, cs, p2, p3, p4, p5, p6, p7, p8⟩ := p
    rw [List.take_length] at p8
    refine q (.ref D) H2 (.n D .lst cs) (e1.tr p1) (.n p2 trivial p4) (fun b m => ?_) (List.nodup_cons.mpr ⟨p6, p7⟩) ⟨D, cs, rfl, p8⟩
    simp only [MT.fp, List.mem_cons] at m
    rcases m with rfl | m
    · exact e1.back hD
    · exact e1.back (p5 b m)
/-- [elt for tg in iter], trees -/
theorem en_lc (Φ : PyData → MT → Prop) (hi : IC X ρ tg iter ds) (hc : X.calm = true) (hN : X.N.Nodup) (ok : BlkOk X.N X.env.scope scope own) (hz : ds.length ≤ sizeLine)
    (turn : ∀ d, d ∈ ds → ∃ ps, (BL X scope fun Y => GD Y tg d ps) ∧ (∀ p ∈ ps, p.1 ∈ own.map (·.2)) ∧ BL X scope fun Y => EN Y (setsD ps (wipeS ρ (own.map (·.2)))) elt (Φ d)) (hs : ∀ x, foldedSetIterable iter X.env x = pure x := by intro _; rfl) :
    EN X ρ (.ListComp elt [⟨tg, iter, [], 0⟩] scope pos) (fun c => ∃ p cs, c = .n p .lst cs ∧ Paired Φ ds cs) := fun σ H ev Q q => by
  obtain ⟨wi, h1, h2⟩ := hi
  exact wE_of (pe_lc (own := own) hc hN h1 ok bG_ok (fun _ _ _ _ _ => pts_nil) bE_ok hs) (lc_trees h2 Φ hz turn ev q)
/-- name = [elt for tg in iter], trees -/
theorem sjs_setLcT (i : Nat) {y : Str} (Φ : PyData → MT → Prop) (hi : IC X ρ tg iter ds) (hz : ds.length ≤ sizeLine)
    (turn : ∀ d, d ∈ ds → ∃ ps, (BL X scope fun Y => GD Y tg d ps) ∧ (∀ p ∈ ps, p.1 ∈ own.map (·.2)) ∧ BL X scope fun Y => EN Y (setsD ps (wipeS ρ (own.map (·.2)))) elt (Φ d))
    (t : ∀ p cs, Paired Φ ds cs → SJs X (ρ.set i (.w (.ref p) (TWd X.K (.ref p) (.n p .lst cs)))) rest N R) (hc : X.calm = true) (hN : X.N.Nodup) (ok : BlkOk X.N X.env.scope scope own) (hy : X.N[i]? = some y := by rfl) (hyl : X.env.scope.names.lookup y = some .local := by rfl)
    (hk : X.env.scope.kind = .function := by rfl) (hl : (py.line == pos.line) = true := by rfl) (ha : (scope.names.any fun (n, k) => n == y && (k == .local || k == .cell)) = false := by rfl) (hs : ∀ x, foldedSetIterable iter X.env x = pure x := by intro _; rfl) :
    SJs X ρ (.Assign [.Name y py] (.ListComp elt [⟨tg, iter, [], 0⟩] scope pos) spos :: rest) N R := by
  obtain ⟨wi, h1, h2⟩ := hi
  exact sjs_cons (M := fun ρ' => ∃ p cs, Paired Φ ds cs ∧ ρ' = ρ.set i (.w (.ref p) (TWd X.K (.ref p) (.n p .lst cs)))) (fun B F σ H ev D k r => wS_of (ps_setLc hc hN hy hyl (sw_true hk hyl hl ha) h1 ok bG_ok (fun _ _ _ _ _ => pts_nil) bE_ok hs) (lc_trees h2 Φ hz turn ev.env fun v H1 c e1 r1 fr1 nd1 hp => by
    obtain ⟨p, cs, rfl, hp⟩ := hp
    obtain ⟨rfl, _⟩ := r1.un
    exact k _ H1 _ (ev.put (x := .w (.ref p) (TWd X.K (.ref p) (.n p .lst cs))) e1 ⟨rfl, ⟨r1, nd1⟩, fr1⟩) e1.te ⟨p, cs, hp, rfl⟩)) fun ρ' m => by
    obtain ⟨p, cs, hp, rfl⟩ := m
    exact t p cs hp
end
/-! ### a tree moved into a display -/
def DNm (X : Cx) (ρ : List Sl) (M : Addr → Prop) (pos : Pos) (keys : List (Option Expr)) (values : List Expr) (ks : List L2.Key) (Ψ : List MT → Prop) : Prop := ∃ trs, PPs X pos keys values trs ∧ ∀ σ H, Env X.K H σ ρ → (∀ b, M b → ∃ o, H b = some o) → ∀ Q : List (V × V) → Hp → Prop,
  (∀ vs H' cs, Ex H H' → Rps X.K H' vs cs → (∀ b ∈ MT.fps cs, H b = none ∨ M b) → (MT.fps cs).Nodup → vs.length = ks.length → Ψ cs → Q ((ks.map kV).zip vs) H') → tPairs trs σ H Q
section
variable {X : Cx} {ρ : List Sl} {e k : Expr} {pos p : Pos} {M : Addr → Prop} {keys : List (Option Expr)} {values : List Expr} {ks : List L2.Key} {ky : L2.Key} {Φ : MT → Prop} {Ψ : List MT → Prop} {rest : List Stmt} {N : List Sl → Prop} {R : Sl → List Sl → Prop}
theorem dnm_cons (hk : ED X ρ k (kD ky)) (hv : EN X ρ e Φ) (t : DNm X ρ M pos keys values ks Ψ) : DNm X ρ M pos (some k :: keys) (e :: values) (ky :: ks) (fun cs => ∃ c r, cs = c :: r ∧ Φ c ∧ Ψ r) := by
  obtain ⟨trs, t1, t2⟩ := t
  refine ⟨_, pps_cons pe_w pe_w t1, fun σ H ev hM Q q => hk σ H ev _ fun u H0 e0 o0 => hv σ H0 (ev.ex e0) _ fun v H1 c e1 r1 fr1 nd1 hc => t2 σ H1 (ev.ex (e0.tr e1)) (fun b m => let ⟨o, ho⟩ := hM b m; ⟨o, (e0.tr e1) _ _ ho⟩) _ fun vs H2 cs e2 r2 fr2 nd2 hl hp => ?_⟩
  rw [show u = kV ky from dt_kV o0]
  refine q (v :: vs) H2 (c :: cs) ((e0.tr e1).tr e2) (.cons (r1.ex e2) r2) (fun b m => ?_) ?_ (by simp [hl]) ⟨c, cs, rfl, hc, hp⟩
  · simp only [MT.fps, List.mem_append] at m
    rcases m with m | m
    · exact .inl (e0.back (fr1 b m))
    · exact (fr2 b m).imp (e0.tr e1).back id
  · refine List.nodup_append.mpr ⟨nd1, nd2, fun x hx y hy z => ?_⟩
    subst z
    obtain ⟨o, ho⟩ := r1.dom x hx
    rcases fr2 x hy with z | z
    · rw [z] at ho; cases ho
    · obtain ⟨o', ho'⟩ := hM x z
      have := fr1 x hx
      rw [e0 _ _ ho'] at this; cases this
theorem dnm_mov {a : Addr} {c : MT} (hk : ED X ρ k (kD ky)) (hv : EV X ρ e (.r (.ref a))) (hf : HF X ρ (TWd X.K (.ref a) c).ok) (hM0 : ∀ b ∈ c.fp, M b) (t : DN X ρ pos keys values ks Ψ) : DNm X ρ M pos (some k :: keys) (e :: values) (ky :: ks) (fun cs => ∃ r, cs = c :: r ∧ Ψ r) := by
  obtain ⟨trs, t1, t2⟩ := t
  refine ⟨_, pps_cons pe_w pe_w t1, fun σ H ev hM Q q => hk σ H ev _ fun u H0 e0 o0 => hv σ H0 (ev.ex e0) _ fun v H1 e1 o1 => t2 σ H1 (ev.ex (e0.tr e1)) _ fun vs H2 cs e2 r2 fr2 nd2 hl hp => ?_⟩
  rw [show u = kV ky from dt_kV o0, show v = .ref a from o1]
  obtain ⟨rc, nc⟩ := hf σ H2 (ev.ex ((e0.tr e1).tr e2))
  refine q _ H2 (c :: cs) ((e0.tr e1).tr e2) (.cons rc r2) (fun b m => ?_) ?_ (by simp [hl]) ⟨cs, rfl, hp⟩
  · simp only [MT.fps, List.mem_append] at m
    rcases m with m | m
    · exact .inr (hM0 b m)
    · exact .inl ((e0.tr e1).back (fr2 b m))
  · refine List.nodup_append.mpr ⟨nc, nd2, fun x hx y hy z => ?_⟩
    subst z
    obtain ⟨o', ho'⟩ := hM x (hM0 x hx)
    have := fr2 x hy
    rw [(e0.tr e1) _ _ ho'] at this; cases this
/-- return {..}, the tree of slot i in it -/
theorem sjs_retDisp (i : Nat) {a : Addr} {c : MT} (h0 : ρ[i]? = some (.w (.ref a) (TWd X.K (.ref a) c))) (h : DNm X ρ (· ∈ c.fp) pos keys values ks Ψ) (hr : ∀ q cs, Ψ cs → R (.w (.ref q) (TWd X.K (.ref q) (.n q (.dk ks) cs))) ρ) (hall : keys.all (·.isSome) = true := by rfl) (hl : keys.length = values.length := by rfl) (hn0 : keys ≠ [] := by intro q; cases q) (h15 : keys.length ≤ 15 := by decide) (nd : ks.Nodup := by decide +kernel) (hk : ks.length ≤ 15 := by decide) :
    SJs X ρ (.Return (some (.Dict keys values pos)) p :: rest) N R := by
  obtain ⟨trs, t1, t2⟩ := h
  refine sjs_cons (M := fun _ => False) (fun B F σ H ev D k r => wS_of (ps_ret pe_w) (wE_of (pe_disp t1 hall hl hn0 h15) fun n hn => t2 σ _ (ev.env.ex (Ex.up hn)) (fun b m => ?_) _ fun vs H1 cs e1 r1 fr1 nd1 hlen hp => ?_)) fun _ m => m.elim
  · obtain ⟨o, ho⟩ := (ev.env.sl i _ h0).2.1.dom b m
    exact ⟨o, (Ex.up hn) _ _ ho⟩
  · have hn1 : H1 n = some (.dK []) := e1 _ _ upd_same
    have fz : (ks.zip vs).map (·.1) = ks := zip_fst hlen.symm
    refine ⟨hn1, ks.zip vs, zip_kV, by rw [List.length_zip]; omega, ?_⟩
    rw [mergeK_nd (by rw [fz]; exact nd)]
    have nn : n ∉ MT.fps cs := fun m => by
      rcases fr1 n m with z | z
      · rw [upd_same] at z; cases z
      · obtain ⟨o, ho⟩ := (ev.env.sl i _ h0).2.1.dom n z
        rw [hn] at ho; cases ho
    have ex2 : Ex H (upd H1 n (.dK (ks.zip vs))) := ((Ex.up hn).tr e1).at_ hn
    have rr : Rp X.K (upd H1 n (.dK (ks.zip vs))) (.ref n) (.n n (.dk ks) cs) := .n upd_same (by show ks.length = cs.length; rw [← r1.len, hlen]) (r1.stay (fun b m => upd_ne fun z => nn (by rw [← z]; exact m)) (tk_dk hn1))
    refine r (.ref n) _ (.w (.ref n) (TWd X.K (.ref n) (.n n (.dk ks) cs))) ρ ex2.te ⟨⟨σ, ev.grow ex2⟩, rfl, ⟨rr, List.nodup_cons.mpr ⟨nn, nd1⟩⟩, fun b m => ?_⟩ (hr n cs hp)
    have m : b ∈ (MT.n n (.dk ks) cs).fp := m
    simp only [MT.fp, List.mem_cons] at m
    rcases m with rfl | m
    · exact ev.ex.back hn
    · rcases fr1 b m with z | z
      · exact ev.ex.back ((Ex.up hn).back z)
      · exact (ev.own i _ b h0 z).1
end
end TC
set_option Elab.async false
set_option linter.all false
set_option maxRecDepth 100000
set_option maxHeartbeats 4000000
/-! The law's own machine begun; an act drawn; a plan. -/
namespace TC
open PySem L2
theorem eFr_inj {a b : Fr} (h : eFr a = eFr b) : a = b := by
  unfold eFr dI at h
  simp only [PyData.tuple.injEq, List.cons.injEq, PyData.int.injEq, and_true] at h
  exact Prod.ext (by omega) (by omega)
theorem eClrS_most {a b : ClrS} (h : eClrS a = eClrS b) : a.most = b.most ∧ a.groups.length = b.groups.length := by
  unfold eClrS at h
  simp only [PyData.tuple.injEq, List.cons.injEq, and_true] at h
  refine ⟨eFr_inj h.2.2, ?_⟩
  have := congrArg List.length h.1
  simpa using this
theorem map_nil_len {α β : Type} : ∀ {xs : List α} {ys : List β}, xs.length = ys.length → (xs.map fun _ => ([] : List Call)) = ys.map fun _ => []
  | [], [], _ => rfl
  | x :: xs, y :: ys, h => congrArg (List.cons _) (map_nil_len (by simpa using h))
structure MBeg (cs : ClrS) (m : MnA) : Prop where
  purse : m.purse = cs.most
  tries : m.tries = 0
  groups : m.groups.map GpA.cs = cs.groups.map fun _ => []
structure OBeg (S : Setting) (o : OwA) : Prop where
  clock : o.clock = 0
  folk : Paired (fun m cs => MBeg cs m) o.folk S.callers
  lanes : o.lanes.map (·.ls) = [[], []]
  cells : o.cells = []
  book : o.book = []
  rows : o.rows = []
theorem Sim.beg {S : Setting} {o : OwA} (ws : WfS S) (h : OBeg S o) : Sim o (begunS S) := by
  refine ⟨h.clock, ?_, h.lanes, h.book, fun x => by rw [h.cells]; rfl, by rw [h.cells]; exact Nat.zero_le _, fun c g => .inl ⟨by rw [h.rows]; rfl, rfl⟩, by rw [h.rows]; exact List.nodup_nil, by rw [h.rows]; rfl⟩
  have gen : ∀ {ms : List MnA} {css : List ClrS}, (∀ cs ∈ css, 0 < cs.most.2) → Paired (fun m cs => MBeg cs m) ms css → Paired SimM ms (css.map fun cs => ⟨cs.most, 0, cs.groups.map fun _ => ⟨0, []⟩⟩) := by
    intro ms css hm hp
    induction hp with
    | nil => exact .nil
    | @cons a b as bs x t ih =>
      refine .cons ⟨?_, ?_, x.tries, ?_⟩ (ih fun cs h => hm cs (List.mem_cons_of_mem _ h))
      · rw [x.purse]; exact hm b List.mem_cons_self
      · rw [x.purse]
      · rw [x.groups]
        simp [List.map_map]
  exact gen (fun cs h => (ws.most cs h).1) h.folk
theorem paired_pick {α β : Type} {F : PyData → MT → Prop} {f : β → PyData} {g : α → MT} {P : α → β → Prop} (h : ∀ b c, F (f b) c → ∃ a, c = g a ∧ P a b) : ∀ {bs : List β} {cs : List MT}, Paired F (bs.map f) cs → ∃ as, cs = as.map g ∧ Paired P as bs
  | [], _, .nil => ⟨[], rfl, .nil⟩
  | b :: bs, _, .cons x t => by
    obtain ⟨as, rfl, h2⟩ := paired_pick h t
    obtain ⟨a, rfl, h1⟩ := h b _ x
    exact ⟨a :: as, rfl, .cons h1 h2⟩
section
variable {P : Program} {w : World} {K : PySem.W.Frag} {mg : Str → Option Value} {base : Heap}
theorem sc_lbegun : FnScope ["_law_deal_here", "_law_folk", "_law_groups", "_law_rate", "_law_top", "_law_group_now"] ["_law_deal_here"] (defScope (top 78)) := ⟨rfl, rfl, rfl, by decide +kernel, rfl, by decide +kernel, by decide +kernel⟩
def R_lbegun (K : PySem.W.Frag) (xs : List Sl) (Φ : Sl → Prop) : Prop := ∃ S : Setting, WfS S ∧ xs = [.d (eSetting S)] ∧ ∀ o : OwA, OBeg S o → Φ (.w (.ref o.a) (OW K o))
theorem c_lbegun (T : Bl mg) (O : Own K mg "_law_begun" (defD "_law_begun" (top 78)) []) : Cal P w K mg base 1 "_law_begun" (ASl K (R_lbegun K)) [] := by
  refine cal_argsX O sc_lbegun ?_ (by decide) (fun _ _ _ _ _ _ us hl => match us, hl with | [_], _ => rfl) ?_
  · rintro xs Φ ⟨S, _, rfl, _⟩
    exact ⟨rfl, fun y hy => by rw [List.mem_singleton.mp hy]; exact trivial⟩
  · rintro f cdv A outer s H E hr xs Φ ⟨S, ws, rfl, hΦ⟩
    have hsz := sz
    have nd := sc_lbegun.nd
    have hnc := ws.nc
    refine sjs_setLcT 1 (own := [("_law_groups", 2), ("_law_rate", 3), ("_law_top", 4)]) (ds := S.callers.map eClrS) (fun d c => ∃ m, c = MnA.t m ∧ ∀ cs, d = eClrS cs → MBeg cs m) (it_tup (ed_ic (ed_var 0) rfl)).ic (by rw [List.length_map]; omega) (fun d hd => ?_) (fun p cs hp => ?_) rfl nd (blkOk_by (N := ["_law_deal_here", "_law_folk", "_law_groups", "_law_rate", "_law_top", "_law_group_now"]) (sc := defScope (top 78)) (by decide +kernel))
    · obtain ⟨cs, hcs, rfl⟩ := List.mem_map.mp hd
      have hng := ws.ng cs hcs
      refine ⟨[(2, .tuple (cs.groups.map eGrpS)), (3, eFr cs.rate), (4, eFr cs.most)], fun _ _ _ _ _ => gd_tup rfl (gds_cons (gd_name 2 nd) (gds_cons (gd_name 3 nd) (gds_cons (gd_name 4 nd) gds_nil))) rfl, own_by, fun _ _ _ _ _ => ?_⟩
      refine EN.imp (en_disp (dn_cons (ky := .inr "purse") ed_str (en_d (d := eFr cs.most) (ed_var 4)) (dn_cons (ky := .inr "tries") ed_str (en_d (d := dI 0) ed_k) (dn_cons (ky := .inr "calls") ed_str (en_lc (own := [("_law_group_now", 5)]) (ds := cs.groups.map eGrpS) (fun d c => ∃ gp : GpA, c = gp.t ∧ gp.cs = []) (it_tup (ed_var 2)).ic rfl nd (blkOk_by (N := ["_law_deal_here", "_law_folk", "_law_groups", "_law_rate", "_law_top", "_law_group_now"]) (sc := lcScope (asgVal (stmtAt (defBody (top 78)) 0))) (by decide +kernel)) (by rw [List.length_map]; omega) (fun d hd => ?_)) dn_nil)))) (fun t ht => ?_)
      · exact ⟨[(5, d)], fun _ _ _ _ _ => gd_name 5 nd, own_by, fun _ _ _ _ _ => EN.imp (en_l (ds := []) (ev_lst ad_nild)) fun c hc => by
          obtain ⟨q, rfl⟩ := hc
          exact ⟨⟨q, []⟩, rfl, rfl⟩⟩
      · obtain ⟨q, cs2, ⟨c1, r1, rfl, rfl, c2, r2, rfl, rfl, c3, r3, rfl, ⟨p3, cs3, rfl, hp3⟩, rfl⟩, rfl⟩ := ht
        obtain ⟨gps, rfl, hpg⟩ := paired_pick (g := GpA.t) (P := fun gp (_ : List CallS) => gp.cs = []) (fun b c h => h) hp3
        refine ⟨⟨q, cs.most, 0, p3, gps⟩, rfl, fun cs' e => ?_⟩
        obtain ⟨e1, e2⟩ := eClrS_most e
        exact ⟨e1, rfl, (paired_map (fun a b h => h) hpg).trans (map_nil_len e2)⟩
    · obtain ⟨ms, rfl, hms⟩ := paired_pick (g := MnA.t) (P := fun m cs => MBeg cs m) (fun b c h => by
        obtain ⟨m, h1, h2⟩ := h
        exact ⟨m, h1, h2 b rfl⟩) hp
      refine sjs_retDisp 1 (a := p) (c := .n p .lst (ms.map MnA.t)) rfl (dnm_cons (ky := .inr "clock") ed_str (en_d (d := dI 0) ed_k) (dnm_mov (ky := .inr "folk") ed_str (ev_w 1) (hf_w 1) (fun b h => h) (dn_cons (ky := .inr "lanes") ed_str (en_lst (an_cons (en_l (ds := []) (ev_lst ad_nild)) (an_cons (en_l (ds := []) (ev_lst ad_nild)) an_nil)) (by decide) (fun cs h => by
          obtain ⟨c, r, rfl, _, c2, r2, rfl, _, rfl⟩ := h
          rfl)) (dn_cons (ky := .inr "cells") ed_str en_dk (dn_cons (ky := .inr "book") ed_str (en_l (ds := []) (ev_lst ad_nild)) (dn_cons (ky := .inr "rows") ed_str en_dt dn_nil)))))) (fun q cs h => ?_)
      obtain ⟨c1, r1, rfl, rfl, r2, rfl, c3, r3, rfl, ⟨q3, cs3, ⟨d1, e1, rfl, ⟨x1, rfl⟩, d2, e2, rfl, ⟨x2, rfl⟩, rfl⟩, rfl⟩, c4, r4, rfl, ⟨q4, rfl⟩, c5, r5, rfl, ⟨q5, rfl⟩, c6, r6, rfl, ⟨q6, rfl⟩, rfl⟩ := h
      exact hΦ ⟨q, 0, p, ms, q3, [⟨x1, []⟩, ⟨x2, []⟩], q4, [], q5, [], q6, []⟩ ⟨rfl, hms, rfl, rfl, rfl, rfl⟩
end
end TC
set_option Elab.async false
set_option linter.all false
set_option maxRecDepth 100000
set_option maxHeartbeats 4000000
/-! The law's own machine: an act drawn. -/
namespace TC
open PySem L2
section
variable {X : Cx} {ρ : List Sl} {i : Nat} {v : V} {W : Wld} {a b c e f o x : Expr} {es : List Expr} {pos p2 p pos' apos cpos : Pos} {P : PyData → Wld → Prop}
/-- xs[e], xs a list of one's own -/
theorem eo_ixV (j : Nat) {x : Str} {ds : List PyData} {P1 : PyData → Wld → Prop} (h0 : ρ[i]? = some (.w v W)) (hij : j ≠ i) (hj : ρ[j]? = some (.l ds)) (hv : PE X (.Name x p) (tVar j)) (hb : EO X ρ i v W b P1) (hp : ∀ d W', P1 d W' → ∃ (n : Nat) (y : PyData), d = dI n ∧ ds[n]? = some y ∧ P y W') (hs : PlainIx b := by exact fun _ _ => rfl) : EO X ρ i v W (.Subscript (.Name x p) b pos) P := fun B F σ H ev Q q =>
  wE_of (pe_ix ix_list hv pe_w hs) (by
    obtain ⟨t, vs, hu, ht1, dt⟩ := ev.env.sl j _ hj
    refine ⟨_, hu, hb B F σ H ev _ fun w H2 d ws o2 => ?_⟩
    obtain ⟨W', h1, h2, h3⟩ := ws.nw
    obtain ⟨n, y, rfl, hy, hP⟩ := hp d W' h1
    have nt : ¬ W.F t := fun z => (ev.own i _ t h0 z).2.2 j _ hij hj hu
    have k2 : H2 t = some (.lst vs) := ws.off t _ ht1 nt
    obtain ⟨z, z1, z2⟩ := dts_at (dt.te ws.tk) (atD_nat hy)
    exact ⟨t, vs, (n : Int), z, rfl, (show DT X.K H2 w (.int (n : Int)) from o2).of_int, .of k2, z1, q z H2 y ⟨ws.off, ws.tk, W', hP, h2, h3⟩ z2⟩)
/-- f(x, y, ..): x the way into the world of slot i, which is changed, y that of slot j, which is lent -/
theorem eo_callB (j : Nat) {k r : Nat} {x y z : Str} {px pz : Pos} {G : List Sl → (Sl → Wld → Prop) → Prop} {PP : Sl → Wld → Prop} {v2 : V} {W2 : Wld} {xs : List Sl} (cl : Cal X.prog X.w X.K X.mg X.base k x (MSp X.K G) []) (hr : Room r X.A) (h0 : ρ[i]? = some (.w v W)) (hij : j ≠ i) (hj : ρ[j]? = some (.w v2 W2)) (ha : AD X ρ (.Name y px :: .Name z pz :: es) (.r v :: .r v2 :: xs)) (hxs : ∀ z ∈ xs, ∃ d, z = .d d) (h : G (.w v W :: .b v2 W2 :: xs) PP)
    (hp : ∀ z W', PP z W' → ∃ d, z = .d d ∧ P d W') (hk : k ≤ r := by decide) (hg : Gl X x := by rfl)
    (hdb : (x == ("__debug__" : Str)) = false := by decide) (he : starEach (.Name y px :: .Name z pz :: es) X.env = (false, eval (.Name y px) X.env) :: starEach (.Name z pz :: es) X.env := by rfl) (hpl : (backTo pos (starEach (.Name z pz :: es) X.env)).any (·.1) = false := by rfl) : EO X ρ i v W (.Call (.Name x p) (.Name y px :: .Name z pz :: es) [] pos) P := fun B F σ H ev Q q =>
  wE_of (pe_own cl hr hk hg pa_w hdb he hpl) (ha σ H ev.env _ fun vs H1 e1 o1 => by
    have ev1 := ev.grow e1
    have s1 : SlsOk X.K H1 vs (.w v W :: .b v2 W2 :: xs) := by
      cases o1 with
      | cons z zs => cases zs with
        | cons z2 zs => exact .cons ⟨congrArg (fun t => some (some t)) z, (ev1.env.sl i _ h0).2⟩ (.cons ⟨congrArg (fun t => some (some t)) z2, (ev1.env.sl j _ hj).2⟩ zs.sls)
    refine ⟨v, W, .b v2 W2 :: xs, PP, by rw [List.append_nil]; exact s1, fun z hz => ?_, h, fun u H2 z W' f1 t f2 f3 rv hP => ?_⟩
    · rcases List.mem_cons.mp hz with rfl | hz
      · exact fun a f g => (ev1.own i _ a h0 g).2.2 j _ hij hj f
      · obtain ⟨d, rfl⟩ := hxs z hz; exact trivial
    · obtain ⟨d, rfl, hR⟩ := hp z W' hP
      exact q u H2 d (.pre e1 ⟨f1, t, W', hR, f2, f3⟩) rv)
end
def nzD (o : OwA) (d : PyData) : Option PyData := match d with
  | .int i => match o.lanes[i.toNat]? with
    | some ln => if ln.ls.isEmpty then none else some d
    | none => none
  | _ => none
section
variable {P : Program} {w : World} {K : PySem.W.Frag} {mg : Str → Option Value} {base : Heap}
theorem sc_lact : FnScope ["_law_mesh_here", "_law_own", "_law_deal_here", "_law_wild", "_law_way", "_law_lanes", "_law_lane", "_law_k"] ["_law_mesh_here", "_law_own", "_law_deal_here", "_law_wild"] (defScope (top 85)) := ⟨rfl, rfl, rfl, by decide +kernel, rfl, by decide +kernel, by decide +kernel⟩
def R_lact (K : PySem.W.Frag) (xs : List Sl) (Q : Sl → Wld → Prop) : Prop := ∃ (S : Setting) (st : State) (o : OwA) (m : Msh) (wild : Nat), xs = [.w (.ref m.a) (MW K m), .b (.ref o.a) (OW K o), .d (eSetting S), .d (dI wild)] ∧ WfS S ∧ 1 ≤ S.callers.length ∧ Sim o st ∧ Wf S st ∧ Szs st ∧ MOk m 10 ∧
  ∀ (x : Step) (m' : Msh), Can S st x → TugN 4 m m' → Q (.d (eStep x)) (MW K m')
theorem c_lact (T : Bl mg) (O : Own K mg "_law_act" (defD "_law_act" (top 85)) []) (ct : Cal P w K mg base 1 "_law_tug" (MSp K (R_tug K)) []) : Cal P w K mg base 2 "_law_act" (MSp K (R_lact K)) [] := by
  refine cal_mut O sc_lact ?_ (by decide) (fun _ _ _ _ _ _ us hl => match us, hl with | [_, _, _, _], _ => rfl) ?_
  · rintro xs Q ⟨S, st, o, m, wild, rfl, _⟩; rfl
  · rintro f cdv A outer s H E hr v W xs Q ⟨S, st, o, m, wild, e, ws, hc1, sim, wf, zs, hm, hQ⟩
    cases e
    have hsz := sz
    have nd := sc_lact.nd
    have hu := roomU hr
    have hu64 := roomU64 hr
    have hu1 : (A.deeper (PyProof.Rows.envOfC "_law_act" (defScope (top 85)) s.heap.objs.size f cdv)).units + 1 < cLine := by omega
    have hnc := ws.nc
    have shp0 : SeqAt.shaped (.list []) = true := Lay.shaped (n := 1) (lay_lst lay_nil)
    refine sjs_setO (i := 0) 4 rfl (eo_tug (many := 12) ct hr rfl (hm.dn (by decide)) (ev_w 0) ed_k (by decide) (by decide)) (fun d W' h => ?_) nd
    obtain ⟨way, m1, _, t1, rfl, rfl⟩ := h
    have hm1 : MOk m1 9 := hm.to t1.n
    rw [← t1.a]
    refine SJs.to [.w (.ref m1.a) (MW K m1), .b (.ref o.a) (OW K o), .d (eSetting S), .d (dI wild), .d (dI way), .no, .no, .no] ?_
    -- the lanes that hold something
    have nz : ∀ l, l < 2 → ∃ ln, o.lanes[l]? = some ln ∧ ln.ls = lane st l := fun l hl => sim.lane_at (by rw [wf.nl]; exact hl)
    refine sjs_setLc 5 (lcjIf (own := [("_law_lane", 6)]) (nzD o) (it_tup (ds := [dI 0, dI 1]) (ed_tup (ad_consd ed_k (ad_consd ed_k ad_nild)))).ic (by show 2 ≤ sizeLine; omega) (fun d hd => ?_)) ?_ rfl nd (blkOk_by (N := ["_law_mesh_here", "_law_own", "_law_deal_here", "_law_wild", "_law_way", "_law_lanes", "_law_lane", "_law_k"]) (sc := defScope (top 85)) (by decide +kernel))
    · obtain ⟨l, hl, rfl⟩ : ∃ l : Nat, l < 2 ∧ d = dI l := by
        simp only [List.mem_cons, List.not_mem_nil, or_false] at hd
        rcases hd with rfl | rfl
        · exact ⟨0, by decide, rfl⟩
        · exact ⟨1, by decide, rfl⟩
      obtain ⟨ln, hln, hls⟩ := nz l hl
      have shp : SeqAt.shaped (.list (ln.ls.map eLetter)) = true := Lay.shaped (n := 3) (lay_lst fun d hd => by
        obtain ⟨y, hy, rfl⟩ := List.mem_map.mp hd
        exact lay_letter (wf.lane_ok y (by rw [← hls]; exact hy)))
      refine ⟨[(6, dI l)], fun _ _ _ _ _ => gd_name 6 nd, own_by, !ln.ls.isEmpty, fun _ _ _ _ _ => td_is (td_neL hu64 (er_at (t := ln.a) (ds := ln.ls.map eLetter) (ev_oln (hf_b 1) hln (ev_olanes hu1 (hf_b 1) (ev_b 1)) (ed_var 6)) (at_lnA (hf_b 1) hln)) (er_new (ev_lst ad_nild)) shp shp0) ?_, fun h => ?_, fun h => ⟨dI l, ?_, fun _ _ _ _ _ => ed_var 6⟩⟩
      · cases ln.ls <;> simp [PyData.eqv, PyData.eqvAll]
      · have h : ln.ls.isEmpty = true := by simpa using h
        simp only [nzD, dI, Int.toNat_natCast, hln, h, if_true]
      · have h : ln.ls.isEmpty = false := by simpa using h
        simp only [nzD, dI, Int.toNat_natCast, hln, h, Bool.false_eq_true, if_false]
    -- they are these numbers
    obtain ⟨nzs, hnz, hmem⟩ : ∃ nzs : List Nat, ([dI 0, dI 1].filterMap (nzD o)) = nzs.map dI ∧ ∀ l ∈ nzs, l < 2 ∧ lane st l ≠ [] := by
      obtain ⟨ln0, h0, e0⟩ := nz 0 (by decide)
      obtain ⟨ln1, h1, e1⟩ := nz 1 (by decide)
      have f0 : nzD o (dI 0) = if ln0.ls.isEmpty then none else some (dI 0) := by
        show nzD o (.int ((0 : Nat) : Int)) = _
        simp only [nzD, Int.toNat_natCast, h0, dI]
      have f1 : nzD o (dI 1) = if ln1.ls.isEmpty then none else some (dI 1) := by
        show nzD o (.int ((1 : Nat) : Int)) = _
        simp only [nzD, Int.toNat_natCast, h1, dI]
      have z0 : ln0.ls.isEmpty = false → lane st 0 ≠ [] := fun h q => by rw [← e0] at q; rw [q] at h; cases h
      have z1 : ln1.ls.isEmpty = false → lane st 1 ≠ [] := fun h q => by rw [← e1] at q; rw [q] at h; cases h
      rw [List.filterMap_cons, List.filterMap_cons, f0, f1]
      cases q0 : ln0.ls.isEmpty <;> cases q1 : ln1.ls.isEmpty
      · exact ⟨[0, 1], rfl, fun l hl => by
          simp only [List.mem_cons, List.not_mem_nil, or_false] at hl
          rcases hl with rfl | rfl
          · exact ⟨by decide, z0 q0⟩
          · exact ⟨by decide, z1 q1⟩⟩
      · exact ⟨[0], rfl, fun l hl => by
          rw [List.mem_singleton.mp hl]
          exact ⟨by decide, z0 q0⟩⟩
      · exact ⟨[1], rfl, fun l hl => by
          rw [List.mem_singleton.mp hl]
          exact ⟨by decide, z1 q1⟩⟩
      · exact ⟨[], rfl, fun l hl => by cases hl⟩
    rw [hnz]
    have hnl : nzs.length ≤ 2 := by
      have := congrArg List.length hnz
      rw [List.length_map] at this
      have h2 := List.length_filterMap_le (nzD o) [dI 0, dI 1]
      simp only [List.length_cons, List.length_nil] at h2
      omega
    have shpn : SeqAt.shaped (.list (nzs.map dI)) = true := Lay.shaped (n := 1) (lay_lst fun d hd => by
      obtain ⟨y, hy, rfl⟩ := List.mem_map.mp hd
      exact lay_I _)
    have nee : (!PyData.eqv (.list (nzs.map dI)) (.list [])) = !nzs.isEmpty := by cases nzs <;> simp [PyData.eqv, PyData.eqvAll]
    have hlane : ∀ l, (lane st l).length ≤ 100000 := fun l => by
      unfold lane
      cases e : st.lanes[l]? with
      | none => simp
      | some L => exact zs.lanes L (List.mem_of_getElem? e)
    refine SJs.to [.w (.ref m1.a) (MW K m1), .b (.ref o.a) (OW K o), .d (eSetting S), .d (dI wild), .d (dI way), .l (nzs.map dI), .no, .no] ?_
    refine sjs_cons (M := fun ρ => ρ = [.w (.ref m1.a) (MW K m1), .b (.ref o.a) (OW K o), .d (eSetting S), .d (dI wild), .d (dI way), .l (nzs.map dI), .no, .no]) (sj_if (k := decide (way < wild) && !nzs.isEmpty) (TW.td (tw_and (td_ltn (ed_var 4) (ed_var 3)) fun _ => tw_and1 (td_is (td_neL hu64 (er_var 5) (er_new (ev_lst ad_nild)) shpn shp0) nee))) (fun h => ?_) fun h => sjs_nil rfl) ?_
    · have hne : nzs ≠ [] := by
        intro q
        rw [q] at h
        simp at h
      have hl0 : 0 < nzs.length := List.length_pos_iff.mpr hne
      refine sjs_setO (i := 0) 6 (P := fun d W' => ∃ (l : Nat) (m2 : Msh), l ∈ nzs ∧ TugTo m1 m2 ∧ d = dI l ∧ W' = MW K m2) rfl (eo_ixV 5 rfl (by decide) rfl (slot_name 5) (eo_tug (many := nzs.length) ct hr rfl (hm1.dn (by decide)) (ev_w 0) (ed_is (ed_lenL T.len (er_var 5)) (by rw [List.length_map]; rfl)) hl0 (by omega)) (fun d W' h => ?_)) (fun d W' h => ?_) nd
      · obtain ⟨r, m2, hr', t2, rfl, rfl⟩ := h
        exact ⟨r, dI nzs[r], rfl, by rw [List.getElem?_map, List.getElem?_eq_getElem hr']; rfl, nzs[r], m2, List.getElem_mem _, t2, rfl, rfl⟩
      obtain ⟨l, m2, hl, t2, rfl, rfl⟩ := h
      have hm2 : MOk m2 8 := hm1.to t2.n
      obtain ⟨l2, lne⟩ := hmem l hl
      obtain ⟨ln, hln, hls⟩ := nz l l2
      have hlp : 0 < (lane st l).length := List.length_pos_iff.mpr lne
      rw [← t2.a]
      refine SJs.to [.w (.ref m2.a) (MW K m2), .b (.ref o.a) (OW K o), .d (eSetting S), .d (dI wild), .d (dI way), .l (nzs.map dI), .d (dI l), .no] ?_
      refine sjs_setO (i := 0) 7 rfl (eo_tug (m := m2) (many := (lane st l).length) ct hr rfl (hm2.dn (by decide)) (ev_w 0) (ed_is (ed_lenAt (t := ln.a) (cs := (ln.ls.map eLetter).map MT.d) T.len (ev_oln (hf_b 1) hln (ev_olanes hu1 (hf_b 1) (ev_b 1)) (ed_var 6)) (at_lnA (hf_b 1) hln)) (by rw [List.length_map, List.length_map, hls])) hlp (by have := hlane l; omega)) (fun d W' h => ?_) nd
      obtain ⟨k, m3, hk, t3, rfl, rfl⟩ := h
      have hm3 : MOk m3 7 := hm2.to t3.n
      rw [← t3.a]
      refine SJs.to [.w (.ref m3.a) (MW K m3), .b (.ref o.a) (OW K o), .d (eSetting S), .d (dI wild), .d (dI way), .l (nzs.map dI), .d (dI l), .d (dI k)] ?_
      refine sjs_retW (R := fun d ρ' => ∃ (x : Step) (m4 : Msh), d = eStep x ∧ Can S st x ∧ TugTo m3 m4 ∧ ρ'[0]? = some (.w (.ref m3.a) (MW K m4))) (ew_eo (i := 0) (v := .ref m3.a) (W := MW K m3) rfl (eo_pick (m := m3) (many := 4) ct hr rfl (hm3.dn (by decide)) (ev_lst (ds := [eStep (.lose l k), eStep (.double l k), eStep (.tear l), eStep .fall]) (ad_consd (ed_tup (ad_consd ed_str (ad_consd (ed_var 6) (ad_consd (ed_var 7) ad_nild)))) (ad_consd (ed_tup (ad_consd ed_str (ad_consd (ed_var 6) (ad_consd (ed_var 7) ad_nild)))) (ad_consd (ed_tup (ad_consd ed_str (ad_consd (ed_var 6) ad_nild))) (ad_consd (ed_tup (ad_consd ed_str ad_nild)) ad_nild))))) (ev_w 0) ed_k rfl (fun z => ∃ x, z = eStep x ∧ Can S st x) (fun z hz => ?_) (by decide) (by decide)) (fun d W' h => ?_)) (fun d ρ' h => ?_)
      · simp only [List.mem_cons, List.not_mem_nil, or_false] at hz
        rcases hz with rfl | rfl | rfl | rfl
        · exact ⟨_, rfl, l2, hk⟩
        · exact ⟨_, rfl, l2, hk⟩
        · exact ⟨_, rfl, l2⟩
        · exact ⟨_, rfl, trivial⟩
      · obtain ⟨m4, ⟨x, rfl, hx⟩, t4, rfl⟩ := h
        exact ⟨x, m4, rfl, hx, t4, rfl⟩
      · obtain ⟨x, m4, rfl, hx, t4, h3⟩ := h
        exact ⟨MW K m4, by rw [h3, t3.a, t2.a, t1.a], hQ x m4 hx (((t1.n.tr t2.n).tr (t3.n.tr t4.n)).up (by decide))⟩
    rintro ρ rfl
    refine sjs_cons (M := fun ρ => ρ = [.w (.ref m1.a) (MW K m1), .b (.ref o.a) (OW K o), .d (eSetting S), .d (dI wild), .d (dI way), .l (nzs.map dI), .no, .no]) (sj_if (k := decide (way < 7) && !nzs.isEmpty) (TW.td (tw_and (td_ltn (ed_var 4) ed_k) fun _ => tw_and1 (td_is (td_neL hu64 (er_var 5) (er_new (ev_lst ad_nild)) shpn shp0) nee))) (fun h => ?_) fun h => sjs_nil rfl) ?_
    · have hne : nzs ≠ [] := by
        intro q
        rw [q] at h
        simp at h
      have hl0 : 0 < nzs.length := List.length_pos_iff.mpr hne
      refine sjs_setO (i := 0) 6 (P := fun d W' => ∃ (l : Nat) (m2 : Msh), l ∈ nzs ∧ TugTo m1 m2 ∧ d = dI l ∧ W' = MW K m2) rfl (eo_ixV 5 rfl (by decide) rfl (slot_name 5) (eo_tug (many := nzs.length) ct hr rfl (hm1.dn (by decide)) (ev_w 0) (ed_is (ed_lenL T.len (er_var 5)) (by rw [List.length_map]; rfl)) hl0 (by omega)) (fun d W' h => ?_)) (fun d W' h => ?_) nd
      · obtain ⟨r, m2, hr', t2, rfl, rfl⟩ := h
        exact ⟨r, dI nzs[r], rfl, by rw [List.getElem?_map, List.getElem?_eq_getElem hr']; rfl, nzs[r], m2, List.getElem_mem _, t2, rfl, rfl⟩
      obtain ⟨l, m2, hl, t2, rfl, rfl⟩ := h
      have hm2 : MOk m2 8 := hm1.to t2.n
      obtain ⟨l2, lne⟩ := hmem l hl
      obtain ⟨ln, hln, hls⟩ := nz l l2
      have hlp : 0 < (lane st l).length := List.length_pos_iff.mpr lne
      rw [← t2.a]
      refine SJs.to [.w (.ref m2.a) (MW K m2), .b (.ref o.a) (OW K o), .d (eSetting S), .d (dI wild), .d (dI way), .l (nzs.map dI), .d (dI l), .no] ?_
      refine sjs_retW (R := fun d ρ' => ∃ (x : Step) (m4 : Msh), d = eStep x ∧ Can S st x ∧ TugTo m2 m4 ∧ ρ'[0]? = some (.w (.ref m2.a) (MW K m4))) (ew_eo (i := 0) (v := .ref m2.a) (W := MW K m2) (P := fun d W' => ∃ (x : Step) (m4 : Msh), d = eStep x ∧ Can S st x ∧ TugTo m2 m4 ∧ W' = MW K m4) rfl (eo_tup (ao_cons rfl (eo_pure (P := fun d W' => d = .str "get" ∧ W' = MW K m2) rfl ed_str ⟨rfl, rfl⟩) fun d1 W1 h1 => ?_)) (fun d W' h => ?_)) (fun d ρ' h => ?_)
      · obtain ⟨rfl, rfl⟩ := h1
        refine ao_cons rfl (eo_pure (P := fun d W' => d = dI l ∧ W' = MW K m2) rfl (ed_var 6) ⟨rfl, rfl⟩) fun d1 W1 h1 => ?_
        obtain ⟨rfl, rfl⟩ := h1
        refine ao_cons rfl (eo_tug (m := m2) (many := (lane st l).length) ct hr rfl (hm2.dn (by decide)) (ev_w 0) (ed_is (ed_lenAt (t := ln.a) (cs := (ln.ls.map eLetter).map MT.d) T.len (ev_oln (hf_b 1) hln (ev_olanes hu1 (hf_b 1) (ev_b 1)) (ed_var 6)) (at_lnA (hf_b 1) hln)) (by rw [List.length_map, List.length_map, hls])) hlp (by have := hlane l; omega)) fun d1 W1 h1 => ?_
        obtain ⟨k, m3, hk, t3, rfl, rfl⟩ := h1
        exact ao_nil rfl ⟨⟨.get l k, m3, rfl, ⟨l2, hk⟩, t3, rfl⟩, by show 3 ≤ sizeLine; omega⟩
      · obtain ⟨x, m4, rfl, hx, t4, rfl⟩ := h
        exact ⟨x, m4, rfl, hx, t4, rfl⟩
      · obtain ⟨x, m4, rfl, hx, t4, h3⟩ := h
        exact ⟨MW K m4, by rw [h3, t2.a, t1.a], hQ x m4 hx (((t1.n.tr t2.n).tr t4.n).up (by decide))⟩
    rintro ρ rfl
    refine sjs_retW (R := fun d ρ' => ∃ (x : Step) (m4 : Msh), d = eStep x ∧ Can S st x ∧ TugN 1 m1 m4 ∧ ρ'[0]? = some (.w (.ref m1.a) (MW K m4))) (ew_eo (i := 0) (v := .ref m1.a) (W := MW K m1) (P := fun d W' => ∃ (x : Step) (m4 : Msh), d = eStep x ∧ Can S st x ∧ TugN 1 m1 m4 ∧ W' = MW K m4) rfl (eo_if (td_ltn (ed_var 4) ed_k) (fun h => eo_tup (ao_cons rfl (eo_pure (P := fun d W' => d = .str "go" ∧ W' = MW K m1) rfl ed_str ⟨rfl, rfl⟩) fun d1 W1 h1 => ?_)) (fun h => eo_pure rfl (ed_tup (ad_consd ed_str ad_nild)) ⟨.tick, m1, rfl, trivial, (TugN.rf m1).up (by decide), rfl⟩)) (fun d W' h => ?_)) (fun d ρ' h => ?_)
    · obtain ⟨rfl, rfl⟩ := h1
      refine ao_cons rfl (eo_tug (m := m1) (many := S.callers.length) ct hr rfl (hm1.dn (by decide)) (ev_w 0) (ed_lenM eClrS T.len (ed_ic (ed_var 2) rfl)) (by omega) (by omega)) fun d1 W1 h1 => ?_
      obtain ⟨c, m3, hc, t3, rfl, rfl⟩ := h1
      exact ao_nil rfl ⟨⟨.go c, m3, rfl, hc, t3.n, rfl⟩, by show 2 ≤ sizeLine; omega⟩
    · obtain ⟨x, m4, rfl, hx, t4, rfl⟩ := h
      exact ⟨x, m4, rfl, hx, t4, rfl⟩
    · obtain ⟨x, m4, rfl, hx, t4, h3⟩ := h
      exact ⟨MW K m4, by rw [h3, t1.a], hQ x m4 hx ((t1.n.tr t4).up (by decide))⟩
end
end TC
set_option linter.all false
/-! Plain: a go keeps a state well; a get, too. -/
namespace TC
open PySem
section
variable {S : Setting} {st : State}
theorem floor_le {a b : Fr} (ha : 0 < a.2) (hb : 0 < b.2) (h : a.1 * b.2 ≤ b.1 * a.2) : a.1 / a.2 ≤ b.1 / b.2 := by
  rw [Nat.le_div_iff_mul_le hb]
  refine Nat.le_of_mul_le_mul_right ?_ ha
  calc a.1 / a.2 * b.2 * a.2 = (a.1 / a.2 * a.2) * b.2 := by ac_rfl
    _ ≤ a.1 * b.2 := Nat.mul_le_mul_right _ (Nat.div_mul_le_self _ _)
    _ ≤ b.1 * a.2 := h
theorem floor_eq {a b : Fr} (ha : 0 < a.2) (hb : 0 < b.2) (h : Feq a b) : a.1 / a.2 = b.1 / b.2 :=
  Nat.le_antisymm (floor_le ha hb (Nat.le_of_eq h)) (floor_le hb ha (Nat.le_of_eq h.sy))
theorem dvd6 {n : Nat} (h : n ∣ 6) : 0 < n ∧ n ≤ 6 := ⟨Nat.pos_of_dvd_of_pos h (by decide), Nat.le_of_dvd (by decide) h⟩
theorem dvd6_of {n : Nat} (h1 : 0 < n) (h2 : n ≤ 3) : n ∣ 6 := by
  have : n = 1 ∨ n = 2 ∨ n = 3 := by omega
  rcases this with rfl | rfl | rfl <;> decide
theorem plus_dvd {a r : Fr} (ha : a.2 ∣ 6) (hr : r.2 ∣ 6) : (fplus a r).2 ∣ 6 := by
  have hm : 0 < a.2 * r.2 := Nat.mul_pos (dvd6 ha).1 (dvd6 hr).1
  obtain ⟨x, hx⟩ := ha
  obtain ⟨y, hy⟩ := hr
  refine fmk_dvd (x := a.1 * x + r.1 * y) hm ?_
  calc (a.1 * r.2 + r.1 * a.2) * 6 = a.1 * r.2 * 6 + r.1 * a.2 * 6 := Nat.add_mul _ _ _
    _ = a.1 * r.2 * (a.2 * x) + r.1 * a.2 * (r.2 * y) := by rw [← hx, ← hy]
    _ = a.1 * x * (a.2 * r.2) + r.1 * y * (a.2 * r.2) := by ac_rfl
    _ = (a.1 * x + r.1 * y) * (a.2 * r.2) := (Nat.add_mul _ _ _).symm
theorem minus_dvd {a : Fr} (ha : a.2 ∣ 6) : (fminus a whole).2 ∣ 6 := by
  have hm : 0 < a.2 := (dvd6 ha).1
  obtain ⟨x, hx⟩ := ha
  unfold fminus whole
  simp only [Nat.mul_one, Nat.one_mul]
  refine fmk_dvd (x := (a.1 - a.2) * x) hm ?_
  calc (a.1 - a.2) * 6 = (a.1 - a.2) * (a.2 * x) := by rw [← hx]
    _ = (a.1 - a.2) * x * a.2 := by ac_rfl
/-- purses are sixths -/
def Pd (st : State) : Prop := ∀ clr ∈ st.callers, clr.purse.2 ∣ 6
theorem Goes.pd {c : Nat} {k : Key} {l : Nat} {fst : Bool} {cs : ClrS} {clr : Clr} {G : Grp} {x : CallS} {pu : Fr} {cl : List Call} {y : Call} (ws : WfS S) (pd : Pd st) (g : Goes S st c k l fst cs clr G x pu cl y) : pu.2 ∣ 6 := by
  have h1 := pd clr (List.mem_of_getElem? g.hclr)
  have hcs := List.mem_of_getElem? g.hcs
  obtain ⟨r1, r2, _⟩ := ws.rate cs hcs
  obtain ⟨m1, m2, _⟩ := ws.most cs hcs
  rcases g.cse with ⟨_, _, _, _, _, rfl⟩ | ⟨_, _, _, _, _, _, rfl, _⟩
  · unfold flesser
    split
    · exact plus_dvd h1 (dvd6_of r1 r2)
    · exact dvd6_of m1 (by omega)
  · exact minus_dvd h1
/-- the worth falls by what a further takes, grows by one at most -/
theorem Goes.worth {c : Nat} {k : Key} {l : Nat} {fst : Bool} {cs : ClrS} {clr : Clr} {G : Grp} {x : CallS} {pu : Fr} {cl : List Call} {y : Call} (ws : WfS S) (pd : Pd st) (g : Goes S st c k l fst cs clr G x pu cl y) : (fst = true → pu.1 / pu.2 ≤ clr.purse.1 / clr.purse.2 + 1) ∧ (fst = false → pu.1 / pu.2 + 1 = clr.purse.1 / clr.purse.2) := by
  have h1 := (dvd6 (pd clr (List.mem_of_getElem? g.hclr))).1
  have hp := (dvd6 (g.pd ws pd)).1
  have hcs := List.mem_of_getElem? g.hcs
  obtain ⟨r1, _, r3⟩ := ws.rate cs hcs
  obtain ⟨m1, _, _⟩ := ws.most cs hcs
  rcases g.cse with ⟨rfl, _, _, _, _, e⟩ | ⟨rfl, _, _, _, _, _, e, hl⟩
  · refine ⟨fun _ => ?_, fun h => by cases h⟩
    rw [← Nat.add_div_right _ h1]
    have fp : 0 < (fplus clr.purse cs.rate).2 := fmk_pos (Nat.mul_pos h1 r1)
    have a1 : (fplus clr.purse cs.rate).1 / (fplus clr.purse cs.rate).2 ≤ (clr.purse.1 + clr.purse.2) / clr.purse.2 := by
      rw [← floor_eq (a := (clr.purse.1 * cs.rate.2 + cs.rate.1 * clr.purse.2, clr.purse.2 * cs.rate.2)) (b := fplus clr.purse cs.rate) (Nat.mul_pos h1 r1) fp (fmk_feq (Nat.mul_pos h1 r1))]
      refine floor_le (a := (clr.purse.1 * cs.rate.2 + cs.rate.1 * clr.purse.2, clr.purse.2 * cs.rate.2)) (b := (clr.purse.1 + clr.purse.2, clr.purse.2)) (Nat.mul_pos h1 r1) h1 ?_
      show (clr.purse.1 * cs.rate.2 + cs.rate.1 * clr.purse.2) * clr.purse.2 ≤ (clr.purse.1 + clr.purse.2) * (clr.purse.2 * cs.rate.2)
      have q := Nat.mul_le_mul_right (clr.purse.2 * clr.purse.2) r3
      calc (clr.purse.1 * cs.rate.2 + cs.rate.1 * clr.purse.2) * clr.purse.2 = clr.purse.1 * (clr.purse.2 * cs.rate.2) + cs.rate.1 * (clr.purse.2 * clr.purse.2) := by rw [Nat.add_mul]; ac_rfl
        _ ≤ clr.purse.1 * (clr.purse.2 * cs.rate.2) + cs.rate.2 * (clr.purse.2 * clr.purse.2) := Nat.add_le_add_left q _
        _ = (clr.purse.1 + clr.purse.2) * (clr.purse.2 * cs.rate.2) := by rw [Nat.add_mul]; ac_rfl
    rw [e]
    unfold flesser
    split
    · exact a1
    · rename_i q
      refine Nat.le_trans (floor_le m1 fp ?_) a1
      unfold fless at q
      have q : ¬ ((fplus clr.purse cs.rate).1 * cs.most.2 < cs.most.1 * (fplus clr.purse cs.rate).2) := by simpa using q
      omega
  · refine ⟨fun h => (by cases h), fun _ => ?_⟩
    have hge : clr.purse.2 ≤ clr.purse.1 := by
      unfold fless whole at hl
      have := of_decide_eq_false hl
      omega
    have fe := floor_eq (a := (clr.purse.1 - clr.purse.2, clr.purse.2)) (b := pu) h1 hp (by rw [e]; exact feq_minus (Feq.rf _) h1)
    rw [← fe, ← Nat.add_div_right _ h1]
    show (clr.purse.1 - clr.purse.2 + clr.purse.2) / clr.purse.2 = _
    rw [Nat.sub_add_cancel hge]
theorem heard_next {c g : Nat} {cl : List Call} {N : Nat} (h : ∀ n x, cl[n]? = some x → x.ans.isSome = true → n < N) : heardOf cl ≤ N := by
  cases e : heardOf cl with
  | zero => exact Nat.zero_le _
  | succ m =>
    have hl := heardOf_le cl
    have hm : m < cl.length := by omega
    have ex := List.getElem?_eq_getElem hm
    have := (heardOf_at cl m cl[m] (by omega) ex).mp (by omega)
    exact h m _ ex this
theorem callS_ok {k : Key} {x : CallS} (ws : WfS S) (h : callS S k = some x) : PyData.strOk x.cell = true ∧ x.number ≤ 9 ∧ x.span ≤ 20 := by
  unfold callS at h
  cases e : grpS S k.c k.g with
  | none => rw [e] at h; cases h
  | some l =>
    rw [e] at h
    obtain ⟨cs, h1, h2⟩ := grpS_mem e
    exact ws.call cs h1 l h2 x (List.mem_of_getElem? (show l[k.n]? = some x from h))
theorem callS_lt {k : Key} {x : CallS} (h : callS S k = some x) : k.n < lenS S k.c k.g := by
  unfold callS at h
  unfold lenS
  cases e : grpS S k.c k.g with
  | none => rw [e] at h; cases h
  | some l =>
    rw [e] at h
    exact (List.getElem?_eq_some_iff.mp (show l[k.n]? = some x from h)).1
theorem Goes.wf {c : Nat} {k : Key} {l : Nat} {fst : Bool} {cs : ClrS} {clr : Clr} {G : Grp} {x : CallS} {pu : Fr} {cl : List Call} {y : Call} (ws : WfS S) (pd : Pd st) (wt : Wf S st) (g : Goes S st c k l fst cs clr G x pu cl y) : Wf S (goS S st c) ∧ Pd (goS S st c) := by
  have hpd := g.pd ws pd
  have hclr := g.hclr
  have hG := g.hG
  have kc := g.kc
  have gG := grp_mk hclr hG
  have gok := wt.grp _ _ _ gG
  have cl1 : cl.length ≤ lenS S c k.g ∧ (∀ z ∈ cl, z.lane ≤ 1) ∧ G.calls.length ≤ cl.length ∧ (∀ n z, cl[n]? = some z → z.ans.isSome = true → n < nextOf st c k.g) := by
    have old : ∀ n z, G.calls[n]? = some z → z.ans.isSome = true → n < nextOf st c k.g := fun n z q1 q2 => wt.ans ⟨c, k.g, n⟩ z (by unfold callAt; rw [gG]; exact q1) q2
    rcases g.cse with ⟨_, hn, hl, rfl, _, _⟩ | ⟨_, x0, hx0, _, rfl, _, _, _⟩
    · refine ⟨by rw [List.length_append, ← hn, ← kc]; exact hl, fun z hz => ?_, by rw [List.length_append]; omega, fun n z q1 q2 => ?_⟩
      · rcases List.mem_append.mp hz with q | q
        · exact gok.lane z q
        · rw [List.mem_singleton.mp q]; have := g.l2; show l ≤ 1; omega
      · rw [List.getElem?_append] at q1
        split at q1
        · exact old n z q1 q2
        · cases e : n - G.calls.length with
          | zero => rw [e] at q1; simp at q1; subst q1; cases q2
          | succ m => rw [e] at q1; simp at q1
    · have hn := (List.getElem?_eq_some_iff.mp hx0).1
      refine ⟨by rw [List.length_set]; exact gok.len, fun z hz => ?_, by rw [List.length_set]; exact Nat.le_refl _, fun n z q1 q2 => ?_⟩
      · rcases mem_set hz with q | rfl
        · exact gok.lane z q
        · have := g.l2; show l ≤ 1; omega
      · by_cases e : k.n = n
        · subst e
          rw [List.getElem?_set_self hn] at q1
          cases q1; cases q2
        · rw [List.getElem?_set_ne e] at q1
          exact old n z q1 q2
  have w1 : Wf S (withCaller st c ⟨pu, clr.tries + 1, withCalls clr.groups k.g cl⟩) := wt.caller hclr hG (dvd6 hpd) cl1.1 cl1.2.1 cl1.2.2.1 cl1.2.2.2
  rw [g.go]
  refine ⟨w1.sent ⟨(callS_ok ws g.hx).1, ⟨y, ?_⟩, ?_⟩, fun clr' h => ?_⟩
  · unfold callAt
    rw [grp_with hclr (List.getElem?_eq_some_iff.mp hG).1, if_pos ⟨kc, rfl⟩]
    exact g.ny
  · rw [kc]
    exact heard_next (c := c) (g := k.g) cl1.2.2.2
  · rcases mem_set (show clr' ∈ st.callers.set c _ from h) with q | rfl
    · exact pd clr' q
    · exact hpd
theorem Wf.go {c : Nat} (ws : WfS S) (pd : Pd st) (wt : Wf S st) : Wf S (goS S st c) ∧ Pd (goS S st c) := by
  by_cases h : dueS S st c = .nothing
  · unfold goS
    rw [h]
    exact ⟨wt, pd⟩
  · obtain ⟨k, l, fst, cs, clr, G, x, pu, cl, y, g⟩ := goes_of wt h
    exact g.wf ws pd wt
/-! ### an ask got -/
structure HsOk (st : State) (c g N : Nat) (x : Hs) (due : List Wait) : Prop where
  pl : place x.row = (c, g)
  fl : x.row.floor ≤ x.row.next
  len : x.row.answers.length = x.row.next - x.row.floor
  nx : x.row.next ≤ (grpD st c g).calls.length
  wt : ∀ y ∈ x.row.waiting, PyData.strOk y.cell = true ∧ x.row.next < y.n ∧ y.n < (grpD st c g).calls.length
  wn : (x.row.waiting.map (·.n)).Nodup
  due1 : due = [] ∨ ∃ y ds, due = y :: ds ∧ y.n = x.row.next ∧ PyData.strOk y.cell = true ∧ y.n < (grpD st c g).calls.length
  cells : ∀ p ∈ x.cells, PyData.strOk p.1 = true
  cnd : (x.cells.map (·.1)).Nodup
  tells : ∀ t ∈ x.tells, t.1.c = c ∧ t.1.g = g ∧ t.1.n < x.row.next
  ge : N ≤ x.row.next
  cb : x.cells.length ≤ x.book.length
theorem putA_ok {cs : List (Str × Nat)} {x : Str} {v : Nat} (h : ∀ p ∈ cs, PyData.strOk p.1 = true) (hx : PyData.strOk x = true) : ∀ p ∈ putA cs x v, PyData.strOk p.1 = true := by
  intro p hp
  unfold putA at hp
  split at hp
  · obtain ⟨q, hq, rfl⟩ := List.mem_map.mp hp
    split
    · exact h q hq
    · exact h q hq
  · rcases List.mem_append.mp hp with q | q
    · exact h p q
    · rw [List.mem_singleton.mp q]; exact hx
theorem HsOk.one {c g N clock : Nat} {x : Hs} {y : Wait} {ds : List Wait} (h : HsOk st c g N x (y :: ds)) : HsOk st c g N (oneS c g clock x y) (dueW x.row.waiting (y.n + 1)) := by
  obtain ⟨hy, hs, hl⟩ : y.n = x.row.next ∧ PyData.strOk y.cell = true ∧ y.n < (grpD st c g).calls.length := by
    rcases h.due1 with q | ⟨z, zs, q, h1, h2, h3⟩
    · cases q
    · cases q; exact ⟨h1, h2, h3⟩
  refine ⟨h.pl, ?_, ?_, hl, fun z hz => ?_, ?_, ?_, ?_, decS_nd h.cnd, fun t ht => ?_, ?_, ?_⟩
  · show x.row.floor ≤ y.n + 1
    have := h.fl; omega
  · show (x.row.answers ++ [_]).length = y.n + 1 - x.row.floor
    have := h.fl
    rw [List.length_append, h.len]
    simp
    omega
  · obtain ⟨z1, z2⟩ := List.mem_filter.mp (show z ∈ x.row.waiting.filter fun x => decide (y.n + 1 < x.n) from hz)
    have q := h.wt z z1
    exact ⟨q.1, of_decide_eq_true z2, q.2.2⟩
  · show ((x.row.waiting.filter fun x => decide (y.n + 1 < x.n)).map (·.n)).Nodup
    exact (List.filter_sublist.map _).nodup h.wn
  · cases e : dueW x.row.waiting (y.n + 1) with
    | nil => exact .inl rfl
    | cons z zs =>
      have hz : z ∈ dueW x.row.waiting (y.n + 1) := by rw [e]; exact List.mem_cons_self
      obtain ⟨z1, z2⟩ := List.mem_filter.mp hz
      have q := h.wt z z1
      exact .inr ⟨z, zs, rfl, of_decide_eq_true z2, q.1, q.2.2⟩
  · show ∀ p ∈ (decS x.cells clock y).1, _
    unfold decS
    split
    · exact h.cells
    · exact putA_ok h.cells hs
  · rcases List.mem_append.mp (show t ∈ x.tells ++ [_] from ht) with q | q
    · have := h.tells t q
      exact ⟨this.1, this.2.1, by show t.1.n < y.n + 1; omega⟩
    · rw [List.mem_singleton.mp q]
      exact ⟨rfl, rfl, Nat.lt_succ_self _⟩
  · show N ≤ y.n + 1
    have := h.ge; omega
  · show (decS x.cells clock y).1.length ≤ (x.book ++ [_]).length
    have := decS_len (cs := x.cells) (clock := clock) (y := y)
    have := h.cb
    rw [List.length_append]
    simp
    omega
theorem HsOk.run {c g N clock : Nat} : ∀ (f : Nat) {x : Hs} {due : List Wait}, HsOk st c g N x due → ∃ due', HsOk st c g N (runS c g clock f x due) due'
  | 0, x, due, h => ⟨due, h⟩
  | f + 1, x, [], h => ⟨[], h⟩
  | f + 1, x, y :: ds, h => HsOk.run f h.one
theorem rowD_RowOk (wt : Wf S st) (c g : Nat) : (rowD st.house.rows c g).next ≤ (grpD st c g).calls.length ∧ (∀ x ∈ (rowD st.house.rows c g).waiting, PyData.strOk x.cell = true ∧ (rowD st.house.rows c g).next < x.n ∧ x.n < (grpD st c g).calls.length) ∧ ((rowD st.house.rows c g).waiting.map (·.n)).Nodup := by
  have hp := place_rowD st.house.rows c g
  rcases rowD_mem (rs := st.house.rows) (c := c) (g := g) with h | h
  · have q := wt.rows _ h
    unfold place at hp
    rw [Prod.mk.injEq] at hp
    have q1 := q.nx
    have q2 := q.wt
    rw [hp.1, hp.2] at q1 q2
    exact ⟨q1, q2, q.wn⟩
  · rw [h]
    exact ⟨Nat.zero_le _, fun x hx => (by cases hx), List.nodup_nil⟩
theorem callAt_lt {k : Key} {y : Call} (h : callAt st k = some y) : k.n < (grpD st k.c k.g).calls.length := by
  unfold callAt at h
  unfold grpD
  cases e : grp st k.c k.g with
  | none => rw [e] at h; cases h
  | some G => rw [e] at h; exact (List.getElem?_eq_some_iff.mp (show G.calls[k.n]? = some y from h)).1
theorem callAt_mk {c g n : Nat} (h : n < (grpD st c g).calls.length) : ∃ y, callAt st ⟨c, g, n⟩ = some y := by
  unfold grpD at h
  unfold callAt
  show ∃ y, (grp st c g).bind _ = some y
  cases e : grp st c g with
  | none => rw [e] at h; exact absurd h (Nat.not_lt_zero _)
  | some G => rw [e] at h; exact ⟨_, List.getElem?_eq_getElem h⟩
/-- no cells but by the book -/
def Cb (st : State) : Prop := st.house.cells.length ≤ st.house.book.length
theorem HsOk.ask (wt : Wf S st) (cb : Cb st) {a : Ask} (ok : LetOk st a.letter) : ∃ due', HsOk st a.k.c a.k.g (nextOf st a.k.c a.k.g) (askS S st.house st.clock a) due' := by
  obtain ⟨rk1, rk2⟩ := askRow_ok wt ok
  obtain ⟨r1, r2, r3⟩ := rowD_RowOk wt a.k.c a.k.g
  obtain ⟨y, hy⟩ := ok.2.1
  have hlt := callAt_lt hy
  have en : (askRow st.house a).next = (rowD st.house.rows a.k.c a.k.g).next := rfl
  have ew : (askRow st.house a).waiting = (rowD st.house.rows a.k.c a.k.g).waiting := rfl
  have hm : ∀ z ∈ askWait S (askRow st.house a) a, PyData.strOk z.cell = true ∧ (askRow st.house a).next < z.n ∧ z.n < (grpD st a.k.c a.k.g).calls.length := fun z hz => by
    rcases askWait_mem' hz with q | ⟨rfl, q⟩
    · exact r2 z (by rw [← ew]; exact q)
    · exact ⟨ok.1, q, hlt⟩
  refine HsOk.run _ ⟨place_rowD _ _ _, rk1, rk2, r1, hm, askWait_nd r3, ?_, wt.cells, wt.cnd, fun t ht => ?_, Nat.le_refl _, cb⟩
  · by_cases e : a.k.n = (askRow st.house a).next
    · rw [if_pos e]
      exact .inr ⟨a.w, [], rfl, e, ok.1, hlt⟩
    · rw [if_neg e]
      exact .inl rfl
  · have ht : t ∈ askTells (askRow st.house a) a.k := ht
    unfold askTells at ht
    split at ht
    · rename_i q
      rw [List.mem_singleton.mp ht]
      exact ⟨rfl, rfl, (of_decide_eq_true q).2⟩
    · cases ht
theorem putRow_mem {rs : List Row} {r x : Row} (h : x ∈ putRow rs r) : x = r ∨ x ∈ rs := by
  unfold putRow at h
  split at h
  · obtain ⟨y, hy, rfl⟩ := List.mem_map.mp h
    split
    · exact .inl rfl
    · exact .inr hy
  · rcases List.mem_append.mp h with q | q
    · exact .inr q
    · exact .inl (List.mem_singleton.mp q)
theorem Wf.closed {c g : Nat} {x : Hs} {due : List Wait} (wt : Wf S st) (h : HsOk st c g (nextOf st c g) x due) (hg : ∃ l, grpS S c g = some l) : Wf S { st with house := closedS st.house x } ∧ (∀ t ∈ x.tells, LetOk { st with house := closedS st.house x } (.tell t.1 t.2)) := by
  have nx : ∀ c' g', nextOf st c' g' ≤ nextOf { st with house := closedS st.house x } c' g' := fun c' g' => by
    unfold nextOf rowD
    show _ ≤ ((rowAt (closedS st.house x).rows c' g').getD _).next
    rw [rowAt_closed wt.rnd, h.pl]
    by_cases e : (c', g') = (c, g)
    · rw [if_pos e]
      cases e
      exact h.ge
    · rw [if_neg e]
      exact Nat.le_refl _
  have nx2 : nextOf { st with house := closedS st.house x } c g = x.row.next := by
    unfold nextOf rowD
    show ((rowAt (closedS st.house x).rows c g).getD _).next = _
    rw [rowAt_closed wt.rnd, h.pl, if_pos rfl]
    rfl
  have pl := h.pl
  unfold place at pl
  rw [Prod.mk.injEq] at pl
  refine ⟨⟨⟨wt.shp.nc, wt.shp.ng⟩, wt.grp, wt.purse, wt.nl, fun l hl z hz => (wt.lets l hl z hz).same (fun k y q => ⟨y, q⟩) nx, fun r hr => ?_, ?_, fun p hp => h.cells p ((List.mergeSort_perm _ _).mem_iff.mp hp), ?_, fun k z q1 q2 => Nat.lt_of_lt_of_le (wt.ans k z q1 q2) (nx _ _)⟩, fun t ht => ?_⟩
  · have hr := (List.mergeSort_perm _ _).mem_iff.mp (show r ∈ sortR (putRow st.house.rows x.row) from hr)
    rcases putRow_mem hr with rfl | q
    · refine ⟨by rw [pl.1, pl.2]; exact hg, h.fl, h.len, ?_, ?_, h.wn⟩
      · rw [pl.1, pl.2]; exact h.nx
      · rw [pl.1, pl.2]; exact h.wt
    · have q := wt.rows r q
      exact ⟨q.grp, q.fl, q.ans, q.nx, q.wt, q.wn⟩
  · show ((sortR (putRow st.house.rows x.row)).map place).Nodup
    exact (((List.mergeSort_perm _ _).map place).nodup_iff).mpr (putRow_nd wt.rnd)
  · show ((sortC x.cells).map (·.1)).Nodup
    exact ((((List.mergeSort_perm _ _).map (fun p : Str × Nat => p.1)) : ((sortC x.cells).map (·.1)).Perm _).nodup_iff).mpr h.cnd
  · obtain ⟨t1, t2, t3⟩ := h.tells t ht
    have t4 := h.nx
    obtain ⟨y, hy⟩ := callAt_mk (st := st) (c := c) (g := g) (n := t.1.n) (by omega)
    have ek : t.1 = ⟨c, g, t.1.n⟩ := by
      obtain ⟨⟨a, b, d⟩, _⟩ := t
      simp only at t1 t2
      rw [t1, t2]
    refine ⟨⟨y, by rw [ek]; exact hy⟩, ?_⟩
    rw [t1, t2, nx2]
    exact t3
end
end TC
set_option linter.all false
/-! Plain: each step keeps a state well; what it weighs. -/
namespace TC
open PySem
theorem sub_len {α : Type} [DecidableEq α] : ∀ {xs ys : List α}, xs.Nodup → (∀ x ∈ xs, x ∈ ys) → xs.length ≤ ys.length
  | [], ys, _, _ => Nat.zero_le _
  | x :: xs, ys, nd, h => by
    obtain ⟨n1, n2⟩ := List.nodup_cons.mp nd
    have hx := h x List.mem_cons_self
    have := sub_len (xs := xs) (ys := ys.erase x) n2 fun y hy => (List.mem_erase_of_ne fun e => n1 (by rw [← e]; exact hy)).mpr (h y (List.mem_cons_of_mem _ hy))
    rw [List.length_erase_of_mem hx] at this
    have hp : 0 < ys.length := List.length_pos_iff.mpr fun e => by rw [e] at hx; cases hx
    rw [List.length_cons]
    omega
theorem sum_set {α : Type} {f : α → Nat} {x y : α} : ∀ {xs : List α} {i : Nat}, xs[i]? = some x → ((xs.set i y).map f).sum + f x = (xs.map f).sum + f y
  | [], i, h => by simp at h
  | z :: xs, 0, h => by
    simp at h; subst h
    simp only [List.set_cons_zero, List.map_cons, List.sum_cons]
    omega
  | z :: xs, i + 1, h => by
    have := sum_set (f := f) (y := y) (xs := xs) (i := i) (by simpa using h)
    simp only [List.set_cons_succ, List.map_cons, List.sum_cons]
    omega
theorem le_sum {α : Type} {f : α → Nat} {x : α} : ∀ {xs : List α}, x ∈ xs → f x ≤ (xs.map f).sum
  | z :: xs, h => by
    simp only [List.map_cons, List.sum_cons]
    rcases List.mem_cons.mp h with rfl | h
    · omega
    · have := le_sum (f := f) h; omega
def wgt : Letter → Nat
  | .ask _ _ _ _ _ => 8
  | .tell _ _ => 1
def loadL (l : List Letter) : Nat := (l.map wgt).sum
def load (st : State) : Nat := (st.lanes.map loadL).sum
def psiC (clr : Clr) : Nat := clr.purse.1 / clr.purse.2 + 2 * (8 - (clr.groups.map fun G => G.calls.length).sum)
def Psi (st : State) : Nat := (st.callers.map psiC).sum
theorem loadL_app (l : List Letter) (x : Letter) : loadL (l ++ [x]) = loadL l + wgt x := by simp [loadL]
theorem wgt_pos (x : Letter) : 1 ≤ wgt x := by cases x <;> simp [wgt]
theorem wgt_le (x : Letter) : wgt x ≤ 8 := by cases x <;> simp [wgt]
theorem len_load : ∀ l : List Letter, l.length ≤ loadL l
  | [] => Nat.zero_le _
  | x :: l => by
    have := len_load l
    have := wgt_pos x
    show l.length + 1 ≤ ((x :: l).map wgt).sum
    simp only [List.map_cons, List.sum_cons]
    unfold loadL at *
    omega
theorem load_without {x : Letter} : ∀ {l : List Letter} {k : Nat}, l[k]? = some x → loadL (l.take k ++ l.drop (k + 1)) + wgt x = loadL l
  | [], k, h => by simp at h
  | y :: l, 0, h => by
    simp at h; subst h
    simp [loadL]
    omega
  | y :: l, k + 1, h => by
    have := load_without (l := l) (k := k) (by simpa using h)
    simp only [List.take_succ_cons, List.drop_succ_cons, List.cons_append]
    unfold loadL at *
    simp only [List.map_cons, List.sum_cons]
    omega
section
variable {S : Setting} {st : State}
theorem lane_get {l : Nat} (h : l < st.lanes.length) : st.lanes[l]? = some (lane st l) := by
  unfold lane
  rw [List.getElem?_eq_getElem h]; rfl
theorem load_set {l : Nat} {L : List Letter} (h : l < st.lanes.length) : load { st with lanes := st.lanes.set l L } + loadL (lane st l) = load st + loadL L := sum_set (f := loadL) (lane_get h)
structure Inv (S : Setting) (n : Nat) (st : State) : Prop where
  wf : Wf S st
  pd : Pd st
  cb : Cb st
  ld : load st ≤ 8 * n
  bk : st.house.book.length ≤ 8 * n
  psi : Psi st ≤ 63
theorem row_wait (ws : WfS S) (wt : Wf S st) {c g : Nat} {ns : List Nat} (nd : ns.Nodup) (h : ∀ n ∈ ns, n < (grpD st c g).calls.length) : ns.length ≤ 4 := by
  have h4 : (grpD st c g).calls.length ≤ 4 := by
    unfold grpD
    cases e : TC.grp st c g with
    | none => exact Nat.zero_le _
    | some G =>
      have gl := (wt.grp _ _ _ e).len
      unfold lenS at gl
      cases e2 : grpS S c g with
      | none => rw [e2] at gl; exact Nat.le_trans gl (Nat.zero_le _)
      | some l => rw [e2] at gl; exact Nat.le_trans gl (ws.grp e2)
  have := sub_len (ys := List.range 4) nd fun n hn => List.mem_range.mpr (Nat.lt_of_lt_of_le (h n hn) h4)
  rwa [List.length_range] at this
theorem Inv.szs {n : Nat} (ws : WfS S) (h : Inv S n st) (hn : n ≤ 12000) : Szs st := by
  have l1 := h.ld
  have b1 := h.bk
  have c1 := h.cb
  unfold Cb at c1
  refine ⟨fun l hl => ?_, by omega, by omega, fun r hr => ?_, ?_⟩
  · have h1 := len_load l
    have h2 : loadL l ≤ load st := le_sum (f := loadL) hl
    omega
  · have q := h.wf.rows r hr
    have := row_wait (c := r.c) (g := r.g) ws h.wf q.wn fun n hn => by
      obtain ⟨w, hw, rfl⟩ := List.mem_map.mp hn
      exact (q.wt w hw).2.2
    rw [List.length_map] at this
    omega
  · have := sub_len (ys := pairsS S) h.wf.rnd fun p hp => by
      obtain ⟨r, hr, rfl⟩ := List.mem_map.mp hp
      obtain ⟨l, hl⟩ := (h.wf.rows r hr).grp
      exact mem_pairsS hl
    have := ws.pairs
    rw [List.length_map] at *
    omega
/-! ### a letter got -/
theorem tells_wf {l : Nat} (wt : Wf S st) {ts : List (Key × Ans)} (hl : l < st.lanes.length) (h : ∀ t ∈ ts, LetOk st (.tell t.1 t.2)) : Wf S (tellAll st l ts) := by
  rw [tellAll_eq _ _ _ hl]
  refine wt.setL fun x hx => ?_
  rcases List.mem_append.mp hx with q | q
  · exact wt.lane_ok x q
  · obtain ⟨t, ht, rfl⟩ := List.mem_map.mp q
    exact h t ht
theorem load_tells (ts : List (Key × Ans)) : loadL (ts.map fun t => Letter.tell t.1 t.2) = ts.length := by
  induction ts with
  | nil => rfl
  | cons t ts ih =>
    unfold loadL at *
    simp only [List.map_cons, List.sum_cons, List.length_cons, ih, wgt]
    omega
theorem loadL_app2 (a b : List Letter) : loadL (a ++ b) = loadL a + loadL b := by simp [loadL]
theorem heard_same {k : Key} {a : Ans} (P : Clr → Clr → Prop) (rf : ∀ c, P c c) (h : ∀ clr g n x G, clr.groups[g]? = some G → G.calls[n]? = some x → P ⟨clr.purse, clr.tries, withCalls clr.groups g (G.calls.set n { x with ans := some a })⟩ clr) : ∃ c row old, (heardTell st k a).lanes = st.lanes ∧ (heardTell st k a).house = st.house ∧ (heardTell st k a).clock = st.clock ∧ ((heardTell st k a).callers = st.callers ∨ (st.callers[c]? = some old ∧ (heardTell st k a).callers = st.callers.set c row ∧ P row old)) := by
  unfold heardTell
  cases hn : isNew st k with
  | false => exact ⟨0, noClr, noClr, rfl, rfl, rfl, .inl rfl⟩
  | true =>
    unfold isNew at hn
    cases hx : callAt st k with
    | none => rw [hx] at hn; cases hn
    | some x =>
      obtain ⟨clr, G, hclr, hG, hcx⟩ := call_un hx
      have e1 : clrD st k.c = clr := by unfold clrD; rw [hclr]; rfl
      have e2 : grpD st k.c k.g = G := by unfold grpD; rw [grp_mk hclr hG]; rfl
      have e3 : callD st k = x := by unfold callD; rw [hx]; rfl
      refine ⟨k.c, ⟨(clrD st k.c).purse, (clrD st k.c).tries, withCalls (clrD st k.c).groups k.g ((grpD st k.c k.g).calls.set k.n { callD st k with ans := some a })⟩, clr, rfl, rfl, rfl, .inr ⟨hclr, rfl, ?_⟩⟩
      rw [e1, e2, e3]
      exact h clr k.g k.n x G hG hcx
theorem sum_calls {gs : List Grp} {g : Nat} {cs : List Call} {G : Grp} (h : gs[g]? = some G) : ((withCalls gs g cs).map fun G => G.calls.length).sum + G.calls.length = (gs.map fun G => G.calls.length).sum + cs.length := sum_set (f := fun G : Grp => G.calls.length) (y := ⟨heardOf cs, cs⟩) h
theorem heard_psi {k : Key} {a : Ans} (pd : Pd st) : Psi (heardTell st k a) = Psi st ∧ Pd (heardTell st k a) := by
  obtain ⟨c, row, old, _, _, _, h⟩ := heard_same (st := st) (k := k) (a := a) (fun a b => psiC a = psiC b ∧ a.purse = b.purse) (fun _ => ⟨rfl, rfl⟩) fun clr g n x G h1 h2 => ⟨by
    have := sum_calls (cs := G.calls.set n { x with ans := some a }) h1
    have el : (G.calls.set n { x with ans := some a }).length = G.calls.length := List.length_set
    unfold psiC
    simp only
    rw [show ((withCalls clr.groups g (G.calls.set n { x with ans := some a })).map fun G => G.calls.length).sum = (clr.groups.map fun G => G.calls.length).sum by omega], rfl⟩
  rcases h with h | ⟨h1, h2, h3, h4⟩
  · unfold Psi Pd
    rw [h]
    exact ⟨rfl, pd⟩
  · unfold Psi Pd
    rw [h2]
    refine ⟨?_, fun clr hc => ?_⟩
    · have := sum_set (f := psiC) (y := row) h1
      omega
    · rcases mem_set hc with q | rfl
      · exact pd clr q
      · rw [h4]; exact pd old (List.mem_of_getElem? h1)
theorem ask_tells (ws : WfS S) (wt : Wf S st) {a : Ask} (ok : LetOk st a.letter) : (askS S st.house st.clock a).tells.length ≤ 6 ∧ (askS S st.house st.clock a).book.length ≤ st.house.book.length + 5 := by
  obtain ⟨r1, r2, r3⟩ := rowD_RowOk wt a.k.c a.k.g
  obtain ⟨y, hy⟩ := ok.2.1
  have hlt := callAt_lt hy
  have hw : (askWait S (askRow st.house a) a).length ≤ 4 := by
    have := row_wait (c := a.k.c) (g := a.k.g) ws wt (askWait_nd (S := S) (r := askRow st.house a) (a := a) r3) fun n hn => by
      obtain ⟨z, hz, rfl⟩ := List.mem_map.mp hn
      rcases askWait_mem' hz with q | ⟨rfl, q⟩
      · exact (r2 z q).2.2
      · exact hlt
    rwa [List.length_map] at this
  unfold askS
  simp only
  refine ⟨Nat.le_trans (runS_tells _ _ _) ?_, Nat.le_trans (runS_book _ _ _) ?_⟩
  · have : (askTells (askRow st.house a) a.k).length ≤ 1 := by
      unfold askTells
      split <;> simp
    show (askTells (askRow st.house a) a.k).length + _ ≤ 6
    omega
  · show st.house.book.length + _ ≤ _
    omega
/-- what a get leaves -/
structure Got (S : Setting) (st st' : State) : Prop where
  wf : Wf S st'
  pd : Pd st'
  cb : Cb st'
  ld : load st' + 1 ≤ load st
  bk : st'.house.book.length ≤ st.house.book.length + 5
  psi : Psi st' = Psi st
  clock : st'.clock = st.clock
theorem get_got (ws : WfS S) (wt : Wf S st) (pd : Pd st) (cb : Cb st) {l k : Nat} (hl : l < 2) (hk : k < (lane st l).length) : Got S st (getS S st l k) := by
  obtain ⟨x, hx, hlet⟩ := letter_at hk
  have hll : l < st.lanes.length := by rw [wt.nl]; exact hl
  have ok := wt.lane_ok x (List.mem_of_getElem? hx)
  have lw := load_without hx
  have ls := load_set (st := st) (L := (lane st l).take k ++ (lane st l).drop (k + 1)) hll
  have w1 := wt.without (l := l) (k := k)
  have hl1 : load (withoutS st l k) + wgt x = load st := by
    show load { st with lanes := st.lanes.set l _ } + wgt x = _
    omega
  unfold getS
  rw [hlet]
  cases x with
  | tell key a =>
    show Got S st (heardTell (withoutS st l k) key a)
    obtain ⟨p1, p2⟩ := heard_psi (st := withoutS st l k) (k := key) (a := a) pd
    obtain ⟨_, _, _, h1, h2, h3, _⟩ := heard_same (st := withoutS st l k) (k := key) (a := a) (fun _ _ => True) (fun _ => trivial) fun _ _ _ _ _ _ _ => trivial
    refine ⟨w1.heard ok.2, p2, ?_, ?_, by rw [h2]; exact Nat.le_add_right _ _, p1, h3⟩
    · unfold Cb; rw [h2]; exact cb
    · have e : load (heardTell (withoutS st l k) key a) = load (withoutS st l k) := by unfold load; rw [h1]
      rw [e]
      have : wgt (.tell key a) = 1 := rfl
      omega
  | ask key cell number last heard =>
    have ok1 : LetOk (withoutS st l k) (Ask.letter ⟨key, cell, number, last, heard⟩) := ok
    have cb1 : Cb (withoutS st l k) := cb
    obtain ⟨due, hs⟩ := HsOk.ask (S := S) w1 cb1 ok1
    obtain ⟨at1, at2⟩ := ask_tells ws w1 ok1
    obtain ⟨y, hy⟩ := ok.2.1
    obtain ⟨clr, G, hclr, hG, _⟩ := call_un hy
    obtain ⟨c1, c2⟩ := w1.closed hs (w1.shp.grpS_ (grp_mk hclr hG))
    have hll2 : l < ({ withoutS st l k with house := closedS (withoutS st l k).house (askS S (withoutS st l k).house (withoutS st l k).clock ⟨key, cell, number, last, heard⟩) } : State).lanes.length := by
      show l < (st.lanes.set l _).length
      rw [List.length_set]; exact hll
    show Got S st (tellAll { withoutS st l k with house := closedS (withoutS st l k).house (askS S (withoutS st l k).house (withoutS st l k).clock ⟨key, cell, number, last, heard⟩) } l (askS S (withoutS st l k).house (withoutS st l k).clock ⟨key, cell, number, last, heard⟩).tells)
    have w2 := tells_wf c1 hll2 c2
    have eT := tellAll_eq (askS S (withoutS st l k).house (withoutS st l k).clock ⟨key, cell, number, last, heard⟩).tells _ _ hll2
    rw [eT] at w2 ⊢
    refine ⟨w2, pd, ?_, ?_, at2, rfl, rfl⟩
    · show (sortC _).length ≤ _
      unfold sortC
      rw [List.length_mergeSort]
      exact hs.cb
    · have q := load_set (st := { withoutS st l k with house := closedS (withoutS st l k).house (askS S (withoutS st l k).house (withoutS st l k).clock ⟨key, cell, number, last, heard⟩) }) (L := lane { withoutS st l k with house := closedS (withoutS st l k).house (askS S (withoutS st l k).house (withoutS st l k).clock ⟨key, cell, number, last, heard⟩) } l ++ (askS S (withoutS st l k).house (withoutS st l k).clock ⟨key, cell, number, last, heard⟩).tells.map fun t => Letter.tell t.1 t.2) hll2
      rw [loadL_app2, load_tells] at q
      have e2 : load { withoutS st l k with house := closedS (withoutS st l k).house (askS S (withoutS st l k).house (withoutS st l k).clock ⟨key, cell, number, last, heard⟩) } = load (withoutS st l k) := rfl
      have : wgt (.ask key cell number last heard) = 8 := rfl
      omega
/-! ### a go -/
structure Went (S : Setting) (st st' : State) (sent : Bool) : Prop where
  wf : Wf S st'
  pd : Pd st'
  house : st'.house = st.house
  ld : load st' ≤ load st + (if sent then 8 else 0)
  psi : Psi st' + (if sent then 1 else 0) ≤ Psi st
  clock : st'.clock = st.clock
theorem go_went (ws : WfS S) (wt : Wf S st) (pd : Pd st) (c : Nat) : Went S st (goS S st c) (!noDue S st c) := by
  obtain ⟨w1, p1⟩ := wt.go (c := c) ws pd
  by_cases h : dueS S st c = .nothing
  · have e : noDue S st c = true := by unfold noDue; rw [h]
    have e2 : goS S st c = st := by unfold goS; rw [h]
    rw [e, e2]
    exact ⟨wt, pd, rfl, Nat.le_refl _, Nat.le_refl _, rfl⟩
  · have e : noDue S st c = false := by
      unfold noDue
      cases q : dueS S st c with
      | nothing => exact absurd q h
      | first _ _ => rfl
      | further _ _ => rfl
    obtain ⟨k, l, fst, cs, clr, G, x, pu, cl, y, g⟩ := goes_of wt h
    have hll : l < st.lanes.length := by rw [wt.nl]; exact g.l2
    have wl := load_set (st := st) (L := lane st l ++ [.ask k x.cell x.number (y.first + x.span) (heardOf cl)]) hll
    rw [loadL_app] at wl
    obtain ⟨f1, f2⟩ := g.worth ws pd
    have sm := sum_calls (cs := cl) g.hG
    have hcl := (List.getElem?_eq_some_iff.mp g.hclr).1
    have s8 : ((withCalls clr.groups k.g cl).map fun G => G.calls.length).sum ≤ 8 := by
      have hc : (goS S st c).callers[c]? = some ⟨pu, clr.tries + 1, withCalls clr.groups k.g cl⟩ := by
        rw [g.go]
        exact List.getElem?_set_self hcl
      obtain ⟨z1, z2⟩ := calls_small ws w1 hc
      match hq : withCalls clr.groups k.g cl, z1, z2 with
      | [], _, _ => exact Nat.zero_le _
      | [A], _, z2 =>
        have := z2 A (by simp)
        simp; omega
      | [A, B], _, z2 =>
        have := z2 A (by simp)
        have := z2 B (by simp)
        simp; omega
    have psc : psiC ⟨pu, clr.tries + 1, withCalls clr.groups k.g cl⟩ + 1 ≤ psiC clr := by
      unfold psiC
      simp only
      rcases g.cse with ⟨rfl, _, _, e, _, _⟩ | ⟨rfl, _, _, _, e, _, _, _⟩
      · have := f1 rfl
        have el : cl.length = G.calls.length + 1 := by rw [e, List.length_append]; rfl
        omega
      · have := f2 rfl
        have el : cl.length = G.calls.length := by rw [e, List.length_set]
        omega
    have ps := sum_set (f := psiC) (y := ⟨pu, clr.tries + 1, withCalls clr.groups k.g cl⟩) g.hclr
    rw [e]
    refine ⟨w1, p1, by rw [g.go]; rfl, ?_, ?_, by rw [g.go]; rfl⟩
    · rw [g.go]
      show load { st with lanes := st.lanes.set l (lane st l ++ [_]) } ≤ load st + 8
      have : wgt (.ask k x.cell x.number (y.first + x.span) (heardOf cl)) = 8 := rfl
      omega
    · rw [g.go]
      show ((st.callers.set c _).map psiC).sum + 1 ≤ (st.callers.map psiC).sum
      omega
/-! ### any step -/
theorem load_le_set {l : Nat} {L : List Letter} {d : Nat} (h : l < st.lanes.length) (hd : loadL L ≤ loadL (lane st l) + d) : load { st with lanes := st.lanes.set l L } ≤ load st + d := by
  have := load_set (st := st) (L := L) h
  omega
theorem Inv.step {n : Nat} (ws : WfS S) (h : Inv S n st) {x : Step} (can : Can S st x) : Inv S (n + 1) (stepS S st x) := by
  have hld := h.ld
  have hbk := h.bk
  have hps := h.psi
  have hnl := h.wf.nl
  cases x with
  | go c =>
    have g := go_went ws h.wf h.pd c
    refine ⟨g.wf, g.pd, ?_, ?_, ?_, ?_⟩
    · show Cb (goS S st c)
      unfold Cb; rw [g.house]; exact h.cb
    · have := g.ld
      show load (goS S st c) ≤ _
      split at this <;> omega
    · show (goS S st c).house.book.length ≤ _
      rw [g.house]; omega
    · have := g.psi
      show Psi (goS S st c) ≤ _
      split at this <;> omega
  | get l k =>
    have g := get_got ws h.wf h.pd h.cb can.1 can.2
    have g1 := g.ld
    have g2 := g.bk
    have g3 := g.psi
    exact ⟨g.wf, g.pd, g.cb, by show load (getS S st l k) ≤ _; omega, by show (getS S st l k).house.book.length ≤ _; omega, by show Psi (getS S st l k) ≤ _; omega⟩
  | lose l k =>
    obtain ⟨x, hx, _⟩ := letter_at can.2
    have lw := load_without hx
    have := load_le_set (d := 0) (L := (lane st l).take k ++ (lane st l).drop (k + 1)) (by rw [hnl]; exact can.1) (by omega)
    exact ⟨h.wf.without, h.pd, h.cb, by show load { st with lanes := st.lanes.set l _ } ≤ _; omega, by show st.house.book.length ≤ _; omega, hps⟩
  | double l k =>
    obtain ⟨x, hx, hlet⟩ := letter_at can.2
    have := wgt_le x
    have := load_le_set (d := 8) (L := lane st l ++ [x]) (by rw [hnl]; exact can.1) (by rw [loadL_app]; omega)
    show Inv S (n + 1) (sentS st l ((letterAt st l k).getD noLetter))
    rw [hlet]
    exact ⟨h.wf.sent (h.wf.lane_ok x (List.mem_of_getElem? hx)), h.pd, h.cb, by show load { st with lanes := st.lanes.set l _ } ≤ _; omega, by show st.house.book.length ≤ _; omega, hps⟩
  | tick => exact ⟨h.wf.clock_, h.pd, h.cb, by show load st ≤ _; omega, by show st.house.book.length ≤ _; omega, hps⟩
  | tear l =>
    have can : l < 2 := can
    have := load_le_set (st := st) (l := l) (d := 0) (L := []) (by rw [hnl]; exact can) (Nat.zero_le _)
    exact ⟨h.wf.tear, h.pd, h.cb, by show load { st with lanes := st.lanes.set l _ } ≤ _; omega, by show st.house.book.length ≤ _; omega, hps⟩
  | fall => exact ⟨h.wf.fall, h.pd, h.cb, by show load st ≤ _; omega, by show st.house.book.length ≤ _; omega, hps⟩
theorem sum_le_mul {α : Type} {f : α → Nat} {b : Nat} : ∀ {xs : List α}, (∀ x ∈ xs, f x ≤ b) → (xs.map f).sum ≤ b * xs.length
  | [], _ => Nat.zero_le _
  | x :: xs, h => by
    have h1 := h x List.mem_cons_self
    have h2 := sum_le_mul (f := f) (b := b) fun y hy => h y (List.mem_cons_of_mem _ hy)
    simp only [List.map_cons, List.sum_cons, List.length_cons, Nat.mul_succ]
    omega
theorem Inv.begun (ws : WfS S) (wf : Wf S (begunS S)) : Inv S 0 (begunS S) := by
  refine ⟨wf, fun clr h => ?_, Nat.le_refl _, Nat.le_refl _, Nat.le_refl _, ?_⟩
  · obtain ⟨cs, hcs, rfl⟩ := List.mem_map.mp h
    obtain ⟨m1, m2, _⟩ := ws.most cs hcs
    exact (dvd6_of m1 (by omega) : cs.most.2 ∣ 6)
  · have hn := ws.nc
    have : Psi (begunS S) ≤ 21 * (begunS S).callers.length := sum_le_mul fun clr h => by
      obtain ⟨cs, hcs, rfl⟩ := List.mem_map.mp h
      obtain ⟨m1, m2, m3⟩ := ws.most cs hcs
      have := Nat.div_le_self cs.most.1 cs.most.2
      unfold psiC
      simp only
      omega
    have e : (begunS S).callers.length = S.callers.length := by unfold begunS; simp
    omega
end
end TC
set_option linter.all false
/-! Plain: drains, gos, rounds, fair runs: that they are, and how long. -/
namespace TC
open PySem
section
variable {S : Setting} {st st' : State}
theorem begun_at {c : Nat} {clr : Clr} (h : (begunS S).callers[c]? = some clr) : ∃ cs, S.callers[c]? = some cs ∧ clr = ⟨cs.most, 0, cs.groups.map fun _ => ⟨0, []⟩⟩ := by
  have h : (S.callers.map fun cs : ClrS => (⟨cs.most, 0, cs.groups.map fun _ => ⟨0, []⟩⟩ : Clr))[c]? = some clr := h
  rw [List.getElem?_map] at h
  cases e : S.callers[c]? with
  | none => rw [e] at h; cases h
  | some cs => rw [e] at h; exact ⟨cs, rfl, (Option.some.inj h).symm⟩
theorem begun_grp {c g : Nat} {G : Grp} (h : grp (begunS S) c g = some G) : G = ⟨0, []⟩ := by
  obtain ⟨clr, h1, h2⟩ := grp_at h
  obtain ⟨cs, _, rfl⟩ := begun_at h1
  have h2 := List.mem_of_getElem? h2
  obtain ⟨_, _, e⟩ := List.mem_map.mp h2
  exact e.symm
theorem wf_begun (ws : WfS S) : Wf S (begunS S) := by
  refine ⟨⟨by unfold begunS; simp, fun c clr cs h1 h2 => ?_⟩, fun c g G h => ?_, fun clr h => ?_, rfl, fun l hl x hx => ?_, fun r hr => (by cases hr), List.nodup_nil, fun p hp => (by cases hp), List.nodup_nil, fun k x h _ => ?_⟩
  · obtain ⟨cs', h3, rfl⟩ := begun_at h1
    rw [h2] at h3
    cases h3
    simp
  · rw [begun_grp h]
    exact ⟨rfl, Nat.zero_le _, fun k hk => (by cases hk)⟩
  · obtain ⟨cs, hcs, rfl⟩ := List.mem_map.mp h
    obtain ⟨m1, m2, _⟩ := ws.most cs hcs
    exact ⟨m1, Nat.le_trans m2 (by decide)⟩
  · have hl : l ∈ [[], ([] : List Letter)] := hl
    simp at hl
    rw [hl] at hx
    cases hx
  · unfold callAt at h
    cases e : grp (begunS S) k.c k.g with
    | none => rw [e] at h; cases h
    | some G =>
      rw [e, begun_grp e] at h
      cases h
theorem Inv.all (ws : WfS S) : ∀ {xs : List Step} {n : Nat} {st : State}, Inv S n st → CanAll S xs st → Inv S (n + xs.length) (runAll S xs st)
  | [], n, st, h, _ => h
  | x :: xs, n, st, h, c => by
    have := Inv.all ws (xs := xs) (h.step ws c.1) c.2
    rw [List.length_cons, show n + (xs.length + 1) = n + 1 + xs.length by omega]
    exact this
theorem Inv.good (ws : WfS S) : ∀ {xs : List Step} {n : Nat} {st : State}, Inv S n st → CanAll S xs st → n + xs.length ≤ 12000 → Good S xs st
  | [], n, st, h, _, _ => trivial
  | x :: xs, n, st, h, c, hn => by
    rw [List.length_cons] at hn
    exact ⟨⟨h.wf, h.szs ws (by omega), c.1⟩, Inv.good ws (xs := xs) (h.step ws c.1) c.2 (by omega)⟩
/-! ### tries -/
def tryB : PyData → Bool
  | .tuple (.str s :: _) => decide (s = "first") || decide (s = "further")
  | _ => false
def triesN (S : Setting) (xs : List Step) (st : State) : Nat := ((evAll S xs st).filter tryB).length
theorem triesN_app {xs ys : List Step} : triesN S (xs ++ ys) st = triesN S xs st + triesN S ys (runAll S xs st) := by
  unfold triesN
  rw [evAll_app, List.filter_append, List.length_append]
theorem triesN_go {c : Nat} {xs : List Step} (h : noDue S st c = false) : triesN S (.go c :: xs) st = triesN S xs (stepS S st (.go c)) + 1 := by
  unfold triesN
  have e : tryB (evS S st (.go c)) = true := by
    show tryB (eDue (dueS S st c)) = true
    unfold noDue at h
    cases q : dueS S st c with
    | nothing => rw [q] at h; cases h
    | first k l => show (decide (("first" : Str) = "first") || decide (("first" : Str) = "further")) = true; decide +kernel
    | further k l => show (decide (("further" : Str) = "first") || decide (("further" : Str) = "further")) = true; decide +kernel
  show (List.filter tryB (evS S st (.go c) :: evAll S xs _)).length = _
  rw [List.filter_cons_of_pos e]
  rfl
theorem triesN_get {l k : Nat} {xs : List Step} : triesN S (.get l k :: xs) st = triesN S xs (stepS S st (.get l k)) := by
  unfold triesN
  have e : tryB (evS S st (.get l k)) = false := by
    show tryB (evGet S st l k) = false
    unfold evGet
    split
    · show (decide (("told" : Str) = "first") || decide (("told" : Str) = "further")) = false
      decide +kernel
    · show (decide (("asked" : Str) = "first") || decide (("asked" : Str) = "further")) = false
      decide +kernel
  show (List.filter tryB (evS S st (.get l k) :: evAll S xs _)).length = _
  rw [List.filter_cons_of_neg (by rw [e]; simp)]
theorem triesN_tick : triesN S [.tick] st = 0 := by
  unfold triesN
  have e : tryB (evS S st .tick) = false := by
    show (decide (("clock" : Str) = "first") || decide (("clock" : Str) = "further")) = false
    decide +kernel
  show (List.filter tryB [evS S st .tick]).length = 0
  rw [List.filter_cons_of_neg (by rw [e]; simp)]
  rfl
/-! ### how old what is open is -/
def Old (z : Nat) (st : State) : Prop := ∀ clr ∈ st.callers, ∀ G ∈ clr.groups, ∀ x ∈ G.calls, x.ans = none → x.last + z ≤ st.clock
theorem Old.dn {z y : Nat} (h : Old z st) (hy : y ≤ z) : Old y st := fun clr a G b x c d => by have := h clr a G b x c d; omega
theorem Old.same {z : Nat} (h : Old z st) (h1 : st'.callers = st.callers) (h2 : st'.clock = st.clock) : Old z st' := by
  unfold Old
  rw [h1, h2]
  exact h
theorem tellAll_same : ∀ (ts : List (Key × Ans)) (st : State) (l : Nat), (tellAll st l ts).callers = st.callers ∧ (tellAll st l ts).clock = st.clock
  | [], st, l => ⟨rfl, rfl⟩
  | t :: ts, st, l => tellAll_same ts (sentS st l (.tell t.1 t.2)) l
theorem Old.heard {z : Nat} {k : Key} {a : Ans} (h : Old z st) : Old z (heardTell st k a) := by
  obtain ⟨c, row, old, _, _, h3, h4⟩ := heard_same (st := st) (k := k) (a := a) (fun row old => ∀ T, (∀ G ∈ old.groups, ∀ x ∈ G.calls, x.ans = none → x.last + z ≤ T) → ∀ G ∈ row.groups, ∀ x ∈ G.calls, x.ans = none → x.last + z ≤ T) (fun _ _ h => h) fun clr g n x G hG hx T q G' hG' y hy e => by
    rcases mem_set hG' with q1 | rfl
    · exact q G' q1 y hy e
    · rcases mem_set hy with q1 | rfl
      · exact q G (List.mem_of_getElem? hG) y q1 e
      · cases e
  rcases h4 with h4 | ⟨h1, h2, h5⟩
  · exact h.same h4 h3
  · intro clr hc
    rw [h2] at hc
    rw [h3]
    rcases mem_set hc with q | rfl
    · exact h clr q
    · exact h5 _ (h old (List.mem_of_getElem? h1))
theorem Old.get {z l k : Nat} (h : Old z st) : Old z (getS S st l k) := by
  unfold getS
  cases (letterAt st l k).getD noLetter with
  | tell key a => exact Old.heard (st := withoutS st l k) h
  | ask key cell number last heard =>
    obtain ⟨h1, h2⟩ := tellAll_same (askS S st.house st.clock ⟨key, cell, number, last, heard⟩).tells { withoutS st l k with house := closedS st.house (askS S st.house st.clock ⟨key, cell, number, last, heard⟩) } l
    exact h.same h1 h2
theorem Old.go {c : Nat} (wt : Wf S st) (h : Old 0 st) : Old 0 (goS S st c) := by
  by_cases hd : dueS S st c = .nothing
  · unfold goS; rw [hd]; exact h
  · obtain ⟨k, l, fst, cs, clr, G, x, pu, cl, y, g⟩ := goes_of wt hd
    rw [g.go]
    intro clr' hc G' hG' z hz e
    have hcl := h clr (List.mem_of_getElem? g.hclr)
    have hGm := List.mem_of_getElem? g.hG
    rcases mem_set (show clr' ∈ st.callers.set c _ from hc) with q | rfl
    · exact h clr' q G' hG' z hz e
    · rcases mem_set hG' with q | rfl
      · exact hcl G' q z hz e
      · have hz : z ∈ cl := hz
        show z.last + 0 ≤ st.clock
        rcases g.cse with ⟨_, _, _, rfl, _, _⟩ | ⟨_, x0, _, _, rfl, _, _, _⟩
        · rcases List.mem_append.mp hz with q | q
          · exact hcl G hGm z q e
          · rw [List.mem_singleton.mp q]; exact Nat.le_refl _
        · rcases mem_set hz with q | rfl
          · exact hcl G hGm z q e
          · exact Nat.le_refl _
/-! ### states that fair runs go through -/
structure Okk (S : Setting) (st : State) : Prop where
  wf : Wf S st
  pd : Pd st
  cb : Cb st
  bud : st.house.book.length + 5 * load st + 41 * Psi st ≤ 90000
theorem Inv.okk {n : Nat} (h : Inv S n st) (hn : n ≤ 80) : Okk S st := ⟨h.wf, h.pd, h.cb, by
  have := h.ld
  have := h.bk
  have := h.psi
  omega⟩
theorem szs_of (ws : WfS S) (wt : Wf S st) (cb : Cb st) (hl : load st ≤ 96000) (hb : st.house.book.length ≤ 96000) : Szs st := by
  unfold Cb at cb
  refine ⟨fun l hl => ?_, by omega, by omega, fun r hr => ?_, ?_⟩
  · have h1 := len_load l
    have h2 : loadL l ≤ load st := le_sum (f := loadL) hl
    omega
  · have q := wt.rows r hr
    have := row_wait (c := r.c) (g := r.g) ws wt q.wn fun n hn => by
      obtain ⟨w, hw, rfl⟩ := List.mem_map.mp hn
      exact (q.wt w hw).2.2
    rw [List.length_map] at this
    omega
  · have := sub_len (ys := pairsS S) wt.rnd fun p hp => by
      obtain ⟨r, hr, rfl⟩ := List.mem_map.mp hp
      obtain ⟨l, hl⟩ := (wt.rows r hr).grp
      exact mem_pairsS hl
    have := ws.pairs
    rw [List.length_map] at *
    omega
theorem Okk.szs (ws : WfS S) (h : Okk S st) : Szs st := szs_of ws h.wf h.cb (by have := h.bud; omega) (by have := h.bud; omega)
theorem Okk.tick (h : Okk S st) : Okk S (stepS S st .tick) := ⟨h.wf.clock_, h.pd, h.cb, h.bud⟩
/-! ### drains -/
structure Drained (S : Setting) (st : State) (xs : List Step) (st' : State) : Prop where
  dr : Dr S st xs st'
  ok : Okk S st'
  ld : load st' + xs.length ≤ load st
  psi : Psi st' = Psi st
  tr : triesN S xs st = 0
  mt : mt st' = true
  good : Good S xs st
  run : runAll S xs st = st'
  old : ∀ z, Old z st → Old z st'
theorem drains (ws : WfS S) : ∀ (n : Nat) (st : State), load st ≤ n → Okk S st → ∃ xs st', Drained S st xs st'
  | n, st, hn, h => by
    cases e : mt st with
    | true => exact ⟨[], st, .done h.wf e, h, Nat.le_refl _, rfl, rfl, e, trivial, rfl, fun _ q => q⟩
    | false =>
      have can := can_next (S := S) e
      have g := get_got ws h.wf h.pd h.cb can.1 can.2
      have g1 := g.ld
      have g2 := g.bk
      have g3 := g.psi
      have b := h.bud
      match n, hn with
      | 0, hn => omega
      | n + 1, hn =>
        have ok : Okk S (stepS S st (nextGet st)) := ⟨g.wf, g.pd, g.cb, by
          show (getS S st _ 0).house.book.length + 5 * load (getS S st _ 0) + 41 * Psi (getS S st _ 0) ≤ 90000
          omega⟩
        obtain ⟨xs, st', d⟩ := drains ws n (stepS S st (nextGet st)) (by show load (getS S st _ 0) ≤ n; omega) ok
        refine ⟨nextGet st :: xs, st', .step h.wf (h.szs ws) e d.dr, d.ok, ?_, d.psi.trans g3, ?_, d.mt, ⟨⟨h.wf, h.szs ws, can⟩, d.good⟩, d.run, fun z q => d.old z (Old.get q)⟩
        · have := d.ld
          have e2 : load (stepS S st (nextGet st)) + 1 ≤ load st := g1
          rw [List.length_cons]
          omega
        · have := d.tr
          unfold nextGet
          rw [triesN_get]
          exact this
/-! ### gos -/
theorem noDue_nothing {c : Nat} (h : noDue S st c = true) : dueS S st c = .nothing := by
  unfold noDue at h
  cases q : dueS S st c with
  | nothing => rfl
  | first _ _ => rw [q] at h; cases h
  | further _ _ => rw [q] at h; cases h
structure Gone (S : Setting) (G : State → List Step → State → Prop) (N : State → Prop) (st : State) (xs : List Step) (st' : State) : Prop where
  gc : G st xs st'
  ok : Okk S st'
  ld : load st' + 9 * Psi st' + xs.length ≤ load st + 9 * Psi st
  psi : xs.length + Psi st' ≤ Psi st
  tr : triesN S xs st = xs.length
  good : Good S xs st
  run : runAll S xs st = st'
  old : Old 0 st → Old 0 st'
  nil : xs = [] → st' = st ∧ N st
theorem gones (ws : WfS S) {c : Nat} (hc : c < S.callers.length) : ∀ (n : Nat) (st : State), Psi st ≤ n → Okk S st → ∃ xs st', Gone S (Gc S c) (fun s => noDue S s c = true) st xs st'
  | n, st, hn, h => by
    cases e : noDue S st c with
    | true => exact ⟨[], st, .done h.wf e, h, Nat.le_refl _, Nat.le_of_eq (Nat.zero_add _), rfl, trivial, rfl, fun q => q, fun _ => ⟨rfl, e⟩⟩
    | false =>
      have g := go_went ws h.wf h.pd c
      rw [e] at g
      have g1 := g.ld
      have g3 := g.psi
      have b := h.bud
      simp only [Bool.not_false, if_true] at g1 g3
      match n, hn with
      | 0, hn => omega
      | n + 1, hn =>
        have ok : Okk S (stepS S st (.go c)) := ⟨g.wf, g.pd, by show Cb (goS S st c); unfold Cb; rw [g.house]; exact h.cb, by
          show (goS S st c).house.book.length + 5 * load (goS S st c) + 41 * Psi (goS S st c) ≤ 90000
          rw [g.house]
          omega⟩
        obtain ⟨xs, st', d⟩ := gones ws hc n (stepS S st (.go c)) (by show Psi (goS S st c) ≤ n; omega) ok
        have d1 := d.ld
        have d2 := d.psi
        have e1 : load (stepS S st (.go c)) ≤ load st + 8 := g1
        have e2 : Psi (stepS S st (.go c)) + 1 ≤ Psi st := g3
        refine ⟨.go c :: xs, st', .step h.wf (h.szs ws) e d.gc, d.ok, ?_, ?_, ?_, ⟨⟨h.wf, h.szs ws, hc⟩, d.good⟩, d.run, fun q => d.old (Old.go h.wf q), fun q => by cases q⟩
        · rw [List.length_cons]; omega
        · rw [List.length_cons]; omega
        · rw [triesN_go e, d.tr, List.length_cons]
theorem gsAll (ws : WfS S) : ∀ (n c : Nat) (st : State), S.callers.length - c ≤ n → Okk S st → ∃ xs st', Gone S (Gs S c) (fun s => ∀ c', c ≤ c' → c' < S.callers.length → noDue S s c' = true) st xs st'
  | n, c, st, hn, h => by
    by_cases hc : c < S.callers.length
    · match n, hn with
      | 0, hn => omega
      | n + 1, hn =>
        obtain ⟨xs, st1, g⟩ := gones ws hc _ st (Nat.le_refl _) h
        obtain ⟨ys, st2, d⟩ := gsAll ws n (c + 1) st1 (by omega) g.ok
        have g1 := g.ld
        have g2 := g.psi
        have d1 := d.ld
        have d2 := d.psi
        refine ⟨xs ++ ys, st2, .step hc g.gc d.gc, d.ok, ?_, ?_, ?_, g.good.app (by rw [g.run]; exact d.good), by rw [runAll_app, g.run, d.run], fun q => d.old (g.old q), fun q => ?_⟩
        · rw [List.length_append]; omega
        · rw [List.length_append]; omega
        · rw [triesN_app, g.tr, g.run, d.tr, List.length_append]
        · obtain ⟨q1, q2⟩ := List.append_eq_nil_iff.mp q
          obtain ⟨e1, n1⟩ := g.nil q1
          obtain ⟨e2, n2⟩ := d.nil q2
          refine ⟨e2.trans e1, fun c' h1 h2 => ?_⟩
          by_cases e : c = c'
          · subst e; exact n1
          · rw [← e1]
            exact n2 c' (by omega) h2
    · exact ⟨[], st, .done (by omega), h, Nat.le_refl _, Nat.le_of_eq (Nat.zero_add _), rfl, trivial, rfl, fun q => q, fun _ => ⟨rfl, fun c' h1 h2 => absurd h2 (by omega)⟩⟩
/-! ### a round -/
theorem over_tick (wt : Wf S st) (hm : mt st = true) (hn : ∀ c, c < S.callers.length → noDue S st c = true) (ho : Old S.patience st) : over S (stepS S st .tick) = true := by
  unfold over
  by_cases t : Thr S (stepS S st .tick)
  · rw [thr_iff.mpr t]; rfl
  · have s : Stuck S (stepS S st .tick) := by
      refine ⟨t, mt_iff.mp hm, fun c clr h => ?_⟩
      have h : st.callers[c]? = some clr := h
      have hc : c < S.callers.length := by rw [← wt.shp.nc]; exact (List.getElem?_eq_some_iff.mp h).1
      obtain ⟨d1, d2⟩ := due_nothing (noDue_nothing (hn c hc))
      have e1 : (dueS S (stepS S st .tick) c).is1 = false := by
        have d1 : firstDue S (stepS S st .tick) c = none := d1
        unfold dueS
        rw [d1]
        simp only
        split
        · rfl
        · split <;> rfl
      unfold clrFree
      rw [e1, Bool.false_or]
      have e2 : (hasOpen clr && !fless clr.purse whole) = false := by
        rcases d2 with d2 | d2
        · have : purseOf st c = clr.purse := by unfold purseOf; rw [h]; rfl
          rw [this] at d2
          rw [d2]
          simp
        · have hf : furFrom S st.clock c 0 clr.groups = none := by
            unfold furDue at d2
            rw [h] at d2
            exact d2
          have : hasOpen clr = false := by
            unfold hasOpen
            rw [List.any_eq_false]
            intro G hG q
            obtain ⟨x, hx, hxn⟩ := List.any_eq_true.mp q
            have hxn : x.ans = none := by simpa using hxn
            obtain ⟨i, hi⟩ := List.mem_iff_getElem?.mp hG
            obtain ⟨n, hn⟩ := List.mem_iff_getElem?.mp hx
            have a1 := furFrom_none hf i G n x hi hn hxn
            have a2 := ho clr (List.mem_of_getElem? h) G hG x hx hxn
            omega
          rw [this]; rfl
      rw [e2]; rfl
    rw [stuck_iff.mpr s]
    simp
theorem round_is (ws : WfS S) (h : Okk S st) {z : Nat} (ho : Old z st) : ∃ xs st', Rnd S st xs st' ∧ Okk S st' ∧ Good S xs st ∧ runAll S xs st = st' ∧ triesN S xs st + Psi st' ≤ Psi st ∧ load st' + 9 * Psi st' + xs.length ≤ load st + 9 * Psi st + 1 ∧ (triesN S xs st = 0 → Old (z + 1) st' ∧ (S.patience ≤ z → over S st' = true)) ∧ Old 1 st' := by
  obtain ⟨xs1, st1, d⟩ := drains ws _ st (Nat.le_refl _) h
  obtain ⟨xs2, st2, g⟩ := gsAll ws _ 0 st1 (Nat.le_refl _) d.ok
  have d1 := d.ld
  have d2 := d.psi
  have g1 := g.ld
  have g2 := g.psi
  have b := h.bud
  have e1 : load (stepS S st2 .tick) = load st2 := rfl
  have e2 : Psi (stepS S st2 .tick) = Psi st2 := rfl
  have et : triesN S (xs1 ++ xs2 ++ [.tick]) st = xs2.length := by
    rw [triesN_app, triesN_tick, triesN_app, d.tr, d.run, g.tr]
    omega
  have el : (xs1 ++ xs2 ++ [Step.tick]).length = xs1.length + xs2.length + 1 := by simp; omega
  refine ⟨xs1 ++ xs2 ++ [.tick], stepS S st2 .tick, ⟨xs1, st1, xs2, st2, d.dr, g.gc, g.ok.wf, g.ok.szs ws, rfl, rfl, by rw [el]; omega⟩, g.ok.tick, ?_, ?_, ?_, ?_, fun q => ?_, fun clr a G b x c e => ?_⟩
  · refine (d.good.app (by rw [d.run]; exact g.good)).app ?_
    rw [runAll_app, d.run, g.run]
    exact ⟨⟨g.ok.wf, g.ok.szs ws, trivial⟩, trivial⟩
  · rw [runAll_app, runAll_app, d.run, g.run]; rfl
  · rw [et]; omega
  · rw [el]; omega
  · rw [et] at q
    have q : xs2 = [] := List.length_eq_zero_iff.mp q
    obtain ⟨q1, q2⟩ := g.nil q
    have o1 := d.old z ho
    rw [q1]
    refine ⟨fun clr a G b x c e => ?_, fun hz => over_tick d.ok.wf d.mt (fun c hc => q2 c (Nat.zero_le _) hc) (o1.dn hz)⟩
    have := o1 clr a G b x c e
    show x.last + (z + 1) ≤ st1.clock + 1
    omega
  · have := g.old ((d.old z ho).dn (Nat.zero_le _)) clr a G b x c e
    show x.last + 1 ≤ st2.clock + 1
    omega
/-! ### fair runs -/
structure Fair (S : Setting) (st : State) (xs : List Step) (m : Nat) (st' : State) : Prop where
  fr : Fr_ S st xs m st'
  ok : Okk S st'
  good : Good S xs st
  run : runAll S xs st = st'
theorem fair_is (ws : WfS S) : ∀ (N : Nat) (st : State) (z : Nat), z ≤ S.patience → Okk S st → Old z st → Psi st * (S.patience + 1) + (S.patience + 1 - z) ≤ N → ∃ xs m st', Fair S st xs m st' ∧ xs.length ≤ load st + 9 * Psi st + N ∧ m ≤ triesN S xs st * (S.patience + 1) + (S.patience + 1 - z)
  | N, st, z, hz, h, ho, hN => by
    cases e : over S st with
    | true => exact ⟨[], 0, st, ⟨.done h.wf e, h, trivial, rfl⟩, Nat.zero_le _, Nat.zero_le _⟩
    | false =>
      obtain ⟨xs, st1, r, ok, gd, ru, h1, h2, h3, h4⟩ := round_is ws h ho
      match N, hN with
      | 0, hN => omega
      | N + 1, hN =>
        by_cases ht : triesN S xs st = 0
        · obtain ⟨o1, o2⟩ := h3 ht
          rw [ht] at h1
          by_cases hp : S.patience ≤ z
          · refine ⟨xs ++ [], 1, st1, ⟨.step h.wf e r (.done ok.wf (o2 hp)), ok, by rw [List.append_nil]; exact gd, by rw [List.append_nil]; exact ru⟩, ?_, ?_⟩
            · rw [List.append_nil]; omega
            · rw [List.append_nil, ht]; omega
          · have hm := Nat.mul_le_mul_right (S.patience + 1) (show Psi st1 ≤ Psi st by omega)
            obtain ⟨ys, m, st', f, f1, f2⟩ := fair_is ws N st1 (z + 1) (by omega) ok o1 (by omega)
            refine ⟨xs ++ ys, m + 1, st', ⟨.step h.wf e r f.fr, f.ok, gd.app (by rw [ru]; exact f.good), by rw [runAll_app, ru, f.run]⟩, ?_, ?_⟩
            · rw [List.length_append]; omega
            · rw [triesN_app, ht, ru, Nat.zero_add]; omega
        · have hm := Nat.mul_le_mul_right (S.patience + 1) (show Psi st1 + 1 ≤ Psi st by omega)
          rw [Nat.succ_mul] at hm
          have hp := ws.pat.1
          obtain ⟨ys, m, st', f, f1, f2⟩ := fair_is ws N st1 1 hp ok h4 (by omega)
          refine ⟨xs ++ ys, m + 1, st', ⟨.step h.wf e r f.fr, f.ok, gd.app (by rw [ru]; exact f.good), by rw [runAll_app, ru, f.run]⟩, ?_, ?_⟩
          · rw [List.length_append]; omega
          · have hm2 := Nat.mul_le_mul_right (S.patience + 1) (show triesN S ys st1 + 1 ≤ triesN S xs st + triesN S ys st1 by omega)
            rw [Nat.succ_mul] at hm2
            rw [triesN_app, ru]
            omega
end
end TC
set_option Elab.async false
set_option linter.all false
set_option maxRecDepth 100000
set_option maxHeartbeats 4000000
/-! The law's own machine: a plan. -/
namespace TC
open PySem L2
/-- a tuple of three, of which the first is told -/
def PlanW (K : PySem.W.Frag) (p : Addr) (d : PyData) : Wld where
  F := fun _ => False
  ok := fun H => ∃ v1 v2 v3, H p = some (.tup [v1, v2, v3]) ∧ DT K H v1 d
  dom := fun H a _ f => f.elim
  stay := fun H H' ⟨v1, v2, v3, h1, h2⟩ _ t => ⟨v1, v2, v3, t.1 _ _ h1, h2.te t⟩
section
variable {X : Cx} {ρ : List Sl} {i : Nat} {v : V} {W : Wld} {a b c e f o x : Expr} {es : List Expr} {pos p2 p pos' apos cpos : Pos} {P : PyData → Wld → Prop} {st : Stmt} {rest : List Stmt} {N : List Sl → Prop} {R : Sl → List Sl → Prop}
theorem eb_r {v : V} (h : EV X ρ e (.r v)) : EB X ρ e (· = .no) := fun σ H ev Q q => h σ H ev _ fun u H1 e1 o1 => q u H1 .no e1 trivial rfl
theorem eb_rl {ds : List PyData} (h : ER X ρ e ds) : EB X ρ e (· = .no) := fun σ H ev Q q => h σ H ev _ fun p vs H1 e1 h1 h2 => q (.ref p) H1 .no e1 trivial rfl
theorem sjs_retPlan {k} {d : PyData} (ha : ED X ρ a d) (hb : EB X ρ b (· = .no)) (hc : EB X ρ c (· = .no)) (hr : ∀ q, R (.w (.ref q) (PlanW X.K q d)) ρ) (h1 : starEach [a, b, c] X.env = (false, eval a X.env) :: starEach [b, c] X.env := by rfl) (h2 : starEach [b, c] X.env = (false, eval b X.env) :: starEach [c] X.env := by rfl) (h3 : starEach [c] X.env = (false, eval c X.env) :: starEach [] X.env := by rfl) : SJs X ρ (.Return (some (.Tuple [a, b, c] k p)) pos :: rest) N R :=
  sjs_cons (M := fun _ => False) (fun B F σ H ev D kk r => wS_of (ps_ret (pe_tup pa_w)) (ab_cons (eb_d ha) (ab_cons hb (ab_cons hc ab_nil h3) h2) h1 σ H ev.env _ fun vs H1 xs e1 o1 hp => by
    obtain ⟨y1, ys1, rfl, rfl, y2, ys2, rfl, rfl, y3, ys3, rfl, rfl, rfl⟩ := hp
    cases o1 with
    | @cons v1 _ _ _ z1 t1 => cases t1 with
      | @cons v2 _ _ _ z2 t2 => cases t2 with
        | @cons v3 _ _ _ z3 t3 =>
          cases t3
          have hsz := sz
          refine ⟨by show 3 ≤ sizeLine; omega, fun q hq => ?_⟩
          have e2 := e1.tr (Ex.up (o := .tup [v1, v2, v3]) hq)
          obtain ⟨u, hu, hd⟩ := z1
          cases hu
          exact r (.ref q) _ (.w (.ref q) (PlanW X.K q d)) ρ e2.te ⟨⟨σ, ev.grow e2⟩, rfl, ⟨_, _, _, upd_same, hd.te (Ex.up hq).te⟩, fun a f => f.elim⟩ (hr q))) fun _ m => m.elim
end
def Step.isD : Step → Bool
  | .double _ _ => true
  | _ => false
theorem word_ok (x : Step) : PyData.strOk x.word = true := by cases x <;> (dsimp only [Step.word]; decide +kernel)
theorem word_dbl (x : Step) : PyData.eqv (.str x.word) (.str "double") = x.isD := by
  simp only [PyData.eqv]
  cases x <;> (dsimp only [Step.word, Step.isD]; decide +kernel)
def dblOk (st : State) : Step → Bool
  | .double l _ => decide ((lane st l).length < 12)
  | _ => true
theorem isD_at {x : Step} (h : x.isD = true) : ∃ l k, x = .double l k := by cases x <;> first | exact ⟨_, _, rfl⟩ | cases h
theorem CanAll.snoc {S : Setting} {x : Step} : ∀ {xs : List Step} {st : State}, CanAll S xs st → Can S (runAll S xs st) x → CanAll S (xs ++ [x]) st
  | [], st, _, h => ⟨h, trivial⟩
  | y :: r, st, c, h => ⟨c.1, CanAll.snoc (xs := r) c.2 h⟩
section
variable {P : Program} {w : World} {K : PySem.W.Frag} {mg : Str → Option Value} {base : Heap}
theorem sc_lplan : FnScope ["_law_mesh_here", "_law_deal_here", "_law_many", "_law_wild", "_law_own", "_law_found", "_law_done", "_law_lap", "_law_act_here"] ["_law_mesh_here", "_law_deal_here", "_law_many", "_law_wild"] (defScope (top 86)) := ⟨rfl, rfl, rfl, by decide +kernel, rfl, by decide +kernel, by decide +kernel⟩
def R_lplan (K : PySem.W.Frag) (xs : List Sl) (Q : Sl → Wld → Prop) : Prop := ∃ (S : Setting) (m : Msh) (wild : Nat), xs = [.w (.ref m.a) (MW K m), .d (eSetting S), .d (dI 80), .d (dI wild)] ∧ WfS S ∧ 1 ≤ S.callers.length ∧ MOk m 400 ∧
  ∀ (q : Addr) (ys : List Step) (m' : Msh), ys.length ≤ 80 → CanAll S ys (begunS S) → TugN 320 m m' → Q (.w (.ref q) (PlanW K q (.tuple (ys.map eStep)))) (MW K m')
theorem c_lplan (T : Bl mg) (O : Own K mg "_law_plan" (defD "_law_plan" (top 86)) []) (cb : Cal P w K mg base 1 "_law_begun" (ASl K (R_lbegun K)) []) (ca : Cal P w K mg base 2 "_law_act" (MSp K (R_lact K)) []) (cs : Cal P w K mg base 4 "_law_step" (MSp K (R_lstep K)) []) : Cal P w K mg base 5 "_law_plan" (MSp K (R_lplan K)) [] := by
  refine cal_mut O sc_lplan ?_ (by decide) (fun _ _ _ _ _ _ us hl => match us, hl with | [_, _, _, _], _ => rfl) ?_
  · rintro xs Q ⟨S, m, wild, rfl, _⟩; rfl
  · rintro f cdv A outer s H E hr v W xs Q ⟨S, m, wild, e, ws, hc1, hm, hQ⟩
    cases e
    have hsz := sz
    have nd := sc_lplan.nd
    have hu := roomU hr
    have hu64 := roomU64 hr
    have hu1 : (A.deeper (PyProof.Rows.envOfC "_law_plan" (defScope (top 86)) s.heap.objs.size f cdv)).units + 1 < cLine := by omega
    have inv0 : Inv S 0 (begunS S) := Inv.begun ws (wf_begun ws)
    refine sjs_par3x 4 5 6 (Φ1 := fun y => ∃ o : OwA, Sim o (begunS S) ∧ y = .w (.ref o.a) (OW K o)) (Φ2 := (· = .l [])) (Φ3 := (· = .l [])) (ex_callB cb hr (ab_cons (eb_d (ed_var 1)) ab_nil) (fun xs hx => ?_)) (ex_ev (ev_lst ad_nild) rfl) (ex_ev (ev_lst ad_nild) rfl) (fun y4 y5 y6 h4 h5 h6 => ?_) rfl nd
    · obtain ⟨y, ys, rfl, rfl, rfl⟩ := hx
      exact ⟨S, ws, rfl, fun o ho => ⟨o, Sim.beg ws ho, rfl⟩⟩
    obtain ⟨o, so, rfl⟩ := h4
    subst h5
    subst h6
    refine SJs.to [.w (.ref m.a) (MW K m), .d (eSetting S), .d (dI 80), .d (dI wild), .w (.ref o.a) (OW K o), .l [], .l [], .no, .no] ?_
    refine sjs_cons (M := fun ρ => ∃ (m1 : Msh) (o1 : OwA) (ys : List Step) (ds : List PyData) (s7 s8 : Sl), TugN 320 m m1 ∧ ys.length ≤ 80 ∧ CanAll S ys (begunS S) ∧ ρ = [.w (.ref m.a) (MW K m1), .d (eSetting S), .d (dI 80), .d (dI wild), .w (.ref o.a) (OW K o1), .l (ys.map eStep), .l ds, s7, s8])
      (sj_for (it_range (n := 80) T.range (ed_var 2) (by decide)) (fun k ρ => ∃ (m1 : Msh) (o1 : OwA) (ys : List Step) (ds : List PyData) (s7 s8 : Sl), m1.a = m.a ∧ o1.a = o.a ∧ TugN (4 * k) m m1 ∧ ys.length ≤ k ∧ ds.length ≤ k ∧ CanAll S ys (begunS S) ∧ Sim o1 (runAll S ys (begunS S)) ∧ ρ = [.w (.ref m.a) (MW K m1), .d (eSetting S), .d (dI 80), .d (dI wild), .w (.ref o.a) (OW K o1), .l (ys.map eStep), .l ds, s7, s8])
        ⟨m, o, [], [], .no, .no, rfl, rfl, TugN.rf m, Nat.le_refl _, Nat.le_refl _, trivial, so, rfl⟩ (fun k d ρ hd h => ?_) (fun ρ h => ?_) rfl PassesOwn.never) ?_
    · obtain ⟨m1, o1, ys, ds, s7, s8, ha, hoa, tn, ly, ld, can, sim, rfl⟩ := h
      have hk : k < 80 := by
        have := (List.getElem?_eq_some_iff.mp hd).1
        rwa [rangeD_len] at this
      rw [rangeD_at hk] at hd
      cases hd
      have inv := inv0.all ws can
      rw [Nat.zero_add] at inv
      have hz := inv.szs ws (by omega)
      refine ⟨[(7, dI k)], gd_name 7 nd, ?_⟩
      have hm1 : MOk m1 10 := (hm.dn (d := 10 + 4 * k) (by omega)).to tn
      rw [← ha, ← hoa]
      refine SJs.to [.w (.ref m1.a) (MW K m1), .d (eSetting S), .d (dI 80), .d (dI wild), .w (.ref o1.a) (OW K o1), .l (ys.map eStep), .l ds, .d (dI k), s8] ?_
      refine sjs_setO (i := 0) 8 (P := fun d W' => ∃ (x : Step) (m2 : Msh), d = eStep x ∧ Can S (runAll S ys (begunS S)) x ∧ TugN 4 m1 m2 ∧ W' = MW K m2) rfl (eo_callB 4 (PP := fun z W' => ∃ (x : Step) (m2 : Msh), z = .d (eStep x) ∧ Can S (runAll S ys (begunS S)) x ∧ TugN 4 m1 m2 ∧ W' = MW K m2) (xs := [.d (eSetting S), .d (dI wild)]) ca hr rfl (by decide) rfl (ad_cons (ev_w 0) (ad_cons (ev_w 4) (ad_cons (ed_var 1) (ad_cons (ed_var 3) ad_nil)))) (fun z hz => ?_) ⟨S, _, o1, m1, wild, rfl, ws, hc1, sim, inv.wf, hz, hm1, fun x m2 h1 h2 => ⟨x, m2, rfl, h1, h2, rfl⟩⟩ (fun z W' h => ?_)) (fun d W' h => ?_) nd
      · simp only [List.mem_cons, List.not_mem_nil, or_false] at hz
        rcases hz with rfl | rfl <;> exact ⟨_, rfl⟩
      · obtain ⟨x, m2, rfl, h1, h2, rfl⟩ := h
        exact ⟨_, rfl, x, m2, rfl, h1, h2, rfl⟩
      obtain ⟨x, m2, rfl, cx, t2, rfl⟩ := h
      have tn2 : TugN (4 * (k + 1)) m m2 := (tn.tr t2).up (by omega)
      refine SJs.to [.w (.ref m1.a) (MW K m2), .d (eSetting S), .d (dI 80), .d (dI wild), .w (.ref o1.a) (OW K o1), .l (ys.map eStep), .l ds, .d (dI k), .d (eStep x)] ?_
      refine sjs_one (sj_if (k := !x.isD || dblOk (runAll S ys (begunS S)) x) (TW.td (tw_or (k := !x.isD) (td_is (td_neD hu64 (ed_ic (d := .str x.word) (ed_is (ed_var 8) (eStep_eq x)) rfl) ed_str (lay_str (word_ok x)).shaped (lay_str (by decide +kernel)).shaped) (by rw [word_dbl])) fun hD => tw_or1 ?_)) (fun _ => ?_) fun _ => sjs_nil ?_)
      · obtain ⟨l, kk, rfl⟩ := isD_at (x := x) (by simpa using hD)
        obtain ⟨ln, hln, hls⟩ := sim.lane_at (l := l) (by rw [inv.wf.nl]; exact cx.1)
        refine td_is (td_ltn (ed_lenAt (t := ln.a) (cs := (ln.ls.map eLetter).map MT.d) T.len (ev_oln (hf_w 4) hln (ev_olanes hu1 (hf_w 4) (ev_w 4)) (ed_ic (ed_var 8) rfl)) (at_lnA (hf_w 4) hln)) ed_k) ?_
        rw [List.length_map, List.length_map, hls]
        rfl
      · refine sjs_app 5 (ed_var 8) rfl (by rw [List.length_map]; omega) ?_ (slot_name 5)
        refine SJs.to [.w (.ref m1.a) (MW K m2), .d (eSetting S), .d (dI 80), .d (dI wild), .w (.ref o1.a) (OW K o1), .l (ys.map eStep ++ [eStep x]), .l ds, .d (dI k), .d (eStep x)] ?_
        rw [show ys.map eStep ++ [eStep x] = (ys ++ [x]).map eStep by rw [List.map_append]; rfl]
        refine sjs_appO (i := 4) 6 (ds := ds) (P := fun d W' => ∃ o2 : OwA, o2.a = o1.a ∧ Sim o2 (runAll S (ys ++ [x]) (begunS S)) ∧ W' = OW K o2) rfl (by decide) rfl (eo_call (PP := fun z W' => ∃ (d : PyData) (o2 : OwA), z = .d d ∧ o2.a = o1.a ∧ Sim o2 (runAll S (ys ++ [x]) (begunS S)) ∧ W' = OW K o2) (xs := [.d (eSetting S), .d (eStep x)]) cs hr rfl (ad_cons (ev_w 4) (ad_cons (ed_var 1) (ad_cons (ed_var 8) ad_nil))) (fun z hz => ?_) ⟨S, _, o1, x, rfl, ws, sim, inv.wf, hz, cx, fun d o2 h1 h2 => ⟨d, o2, rfl, h1, by rw [runAll_snoc]; exact h2, rfl⟩⟩ (fun z W' h => ?_)) (by omega) (fun d W' h => ?_) (slot_name 6)
        · simp only [List.mem_cons, List.not_mem_nil, or_false] at hz
          rcases hz with rfl | rfl <;> exact ⟨_, rfl⟩
        · obtain ⟨d, o2, rfl, h1, h2, rfl⟩ := h
          exact ⟨d, rfl, o2, h1, h2, rfl⟩
        · obtain ⟨o2, h1, h2, rfl⟩ := h
          exact sjs_nil ⟨m2, o2, ys ++ [x], ds ++ [d], .d (dI k), .d (eStep x), t2.a, h1, tn2, by rw [List.length_append]; exact Nat.succ_le_succ ly, by rw [List.length_append]; exact Nat.succ_le_succ ld, can.snoc cx, h2, rfl⟩
      · exact ⟨m2, o1, ys, ds, .d (dI k), .d (eStep x), t2.a, rfl, tn2, by omega, by omega, can, sim, rfl⟩
    · obtain ⟨m1, o1, ys, ds, s7, s8, ha, hoa, tn, ly, ld, can, sim, rfl⟩ := h
      rw [rangeD_len] at tn ly
      exact ⟨m1, o1, ys, ds, s7, s8, tn, ly, can, rfl⟩
    · rintro ρ ⟨m1, o1, ys, ds, s7, s8, tn, ly, can, rfl⟩
      exact sjs_retPlan (ed_tupOf T.tuple (er_var 5)) (eb_r (ev_w 4)) (eb_rl (er_var 6)) (fun q => ⟨MW K m1, rfl, hQ q ys m1 ly can tn⟩)
end
end TC
set_option Elab.async false
set_option linter.all false
set_option maxRecDepth 100000
set_option maxHeartbeats 4000000
/-! The law's mesh begun; a deal's labels. -/
namespace TC
open PySem L2
section
variable {P : Program} {w : World} {K : PySem.W.Frag} {mg : Str → Option Value} {base : Heap}
theorem ints_dts {K : PySem.W.Frag} {H : Hp} : ∀ (ns : List Int), DTs K H (ns.map V.int) (ns.map PyData.int)
  | [] => .nil
  | n :: ns => .cons (.int n) (ints_dts ns)
theorem sc_lmesh : FnScope ["_law_script"] ["_law_script"] (defScope (top 74)) := ⟨rfl, rfl, rfl, by decide +kernel, rfl, by decide +kernel, by decide +kernel⟩
def R_lmesh (K : PySem.W.Frag) (xs : List Sl) (Φ : Sl → Prop) : Prop := ∃ (a : Addr) (W : Wld) (ns : List Int), xs = [.b (.ref a) W] ∧ (∀ H, W.ok H → SqL K H a (ns.map V.int)) ∧ ∀ m : Msh, m.xs.length ≤ 63 → m.turn = 0 → Φ (.w (.ref m.a) (MW K m))
theorem c_lmesh (T : Bl mg) (O : Own K mg "_law_mesh" (defD "_law_mesh" (top 74)) []) : Cal P w K mg base 1 "_law_mesh" (ASl K (R_lmesh K)) [] := by
  refine cal_argsX O sc_lmesh ?_ (by decide) (fun _ _ _ _ _ _ us hl => match us, hl with | [_], _ => rfl) ?_
  · rintro xs Φ ⟨a, W, ns, rfl, _⟩
    exact ⟨rfl, fun y hy => by rw [List.mem_singleton.mp hy]; exact trivial⟩
  · rintro f cdv A outer s H E hr xs Φ ⟨a, W, ns, rfl, hW, hΦ⟩
    have hsz := sz
    have nd := sc_lmesh.nd
    refine sjs_retX (ex_en (en_lst (an_cons (en_l (ev_slL (ds := ns.map PyData.int) (l := none) (u := some 63) (ev_b 0) (fun σ H ev => ⟨_, hW H (hf_b (v := .ref a) (W := W) 0 rfl σ H ev), ints_dts ns⟩) trivial (show ED _ _ _ (.int 63) from ed_int))) (an_cons (en_d (d := dI 0) ed_k) (an_cons (en_d (d := dI 0) ed_k) (an_cons (en_d (d := dI 0) ed_k) an_nil)))) (by decide) (fun cs h => ?_)) (fun c h => ?_)) (fun y h => ?_)
    · obtain ⟨c, r, rfl, _, c2, r2, rfl, _, c3, r3, rfl, _, c4, r4, rfl, _, rfl⟩ := h
      rfl
    · obtain ⟨q, cs, _, rfl⟩ := h
      exact ⟨q, .lst, cs, rfl⟩
    · obtain ⟨q, k, cs, ⟨q2, cs2, h, e⟩, rfl⟩ := h
      cases e
      obtain ⟨c, r, rfl, ⟨b, rfl⟩, c2, r2, rfl, rfl, c3, r3, rfl, rfl, c4, r4, rfl, rfl, rfl⟩ := h
      have e : cutD (ns.map PyData.int) none (some 63) = (ns.take 63).map PyData.int := by
        rw [List.map_take]
        exact cut_to (n := 63)
      rw [e]
      exact hΦ ⟨q, b, ns.take 63, 0, 0, 0⟩ (by rw [List.length_take]; exact Nat.min_le_left _ _) rfl
end
/-! ### labels -/
def nGrp (S : Setting) (c : Nat) : Nat := ((S.callers[c]?).map fun cs => cs.groups.length).getD 0
def labG (S : Setting) (c g : Nat) : List Key := (List.range (lenS S c g)).map fun n => ⟨c, g, n⟩
def labC (S : Setting) (c g : Nat) : List Key := (List.range g).flatMap (labG S c)
def labS (S : Setting) (c : Nat) : List Key := (List.range c).flatMap fun c => labC S c (nGrp S c)
def labels (S : Setting) : List Key := labS S S.callers.length
theorem labC_succ {S : Setting} {c g : Nat} : labC S c (g + 1) = labC S c g ++ labG S c g := by
  unfold labC
  rw [List.range_succ, List.flatMap_append]
  simp
theorem labS_succ {S : Setting} {c : Nat} : labS S (c + 1) = labS S c ++ labC S c (nGrp S c) := by
  unfold labS
  rw [List.range_succ, List.flatMap_append]
  simp
theorem flat_len {α β : Type} {f : α → List β} {b : Nat} : ∀ {xs : List α}, (∀ x ∈ xs, (f x).length ≤ b) → (xs.flatMap f).length ≤ b * xs.length
  | [], _ => Nat.zero_le _
  | x :: xs, h => by
    have h1 := h x List.mem_cons_self
    have h2 := flat_len (f := f) (b := b) fun y hy => h y (List.mem_cons_of_mem _ hy)
    rw [List.flatMap_cons, List.length_append, List.length_cons, Nat.mul_succ]
    omega
theorem lenS_le {S : Setting} (ws : WfS S) (c g : Nat) : lenS S c g ≤ 4 := by
  unfold lenS
  cases e : grpS S c g with
  | none => exact Nat.zero_le _
  | some l => exact ws.grp e
theorem labC_len {S : Setting} (ws : WfS S) (c g : Nat) : (labC S c g).length ≤ 4 * g := by
  have := flat_len (f := labG S c) (b := 4) (xs := List.range g) fun x _ => by unfold labG; rw [List.length_map, List.length_range]; exact lenS_le ws c x
  rwa [List.length_range] at this
theorem nGrp_le {S : Setting} (ws : WfS S) (c : Nat) : nGrp S c ≤ 2 := by
  unfold nGrp
  cases e : S.callers[c]? with
  | none => exact Nat.zero_le _
  | some cs => exact ws.ng cs (List.mem_of_getElem? e)
theorem labS_len {S : Setting} (ws : WfS S) (c : Nat) : (labS S c).length ≤ 8 * c := by
  have := flat_len (f := fun c => labC S c (nGrp S c)) (b := 8) (xs := List.range c) fun x _ => by
    have := labC_len ws x (nGrp S x)
    have := nGrp_le ws x
    omega
  rwa [List.length_range] at this
theorem mem_labels {S : Setting} {k : Key} : k ∈ labels S ↔ k.n < lenS S k.c k.g := by
  unfold labels labS labC labG
  simp only [List.mem_flatMap, List.mem_map, List.mem_range]
  constructor
  · rintro ⟨c, hc, g, hg, n, hn, rfl⟩
    exact hn
  · intro h
    have h2 := h
    unfold lenS at h
    cases e : grpS S k.c k.g with
    | none => rw [e] at h; exact absurd h (Nat.not_lt_zero _)
    | some l =>
      unfold grpS at e
      cases e2 : S.callers[k.c]? with
      | none => rw [e2] at e; cases e
      | some cs =>
        rw [e2] at e
        refine ⟨k.c, (List.getElem?_eq_some_iff.mp e2).1, k.g, ?_, k.n, h2, rfl⟩
        unfold nGrp
        rw [e2]
        exact (List.getElem?_eq_some_iff.mp (show cs.groups[k.g]? = some l from e)).1
section
variable {P : Program} {w : World} {K : PySem.W.Frag} {mg : Str → Option Value} {base : Heap}
theorem sc_llabels : FnScope ["_law_deal_here", "_law_found", "_law_who", "_law_g", "_law_n"] ["_law_deal_here"] (defScope (top 77)) := ⟨rfl, rfl, rfl, by decide +kernel, rfl, by decide +kernel, by decide +kernel⟩
def R_llabels (xs : List Sl) (Φ : Sl → Prop) : Prop := ∃ S : Setting, WfS S ∧ xs = [.d (eSetting S)] ∧ Φ (.l ((labels S).map eKey))
theorem c_llabels (T : Bl mg) (O : Own K mg "_law_labels" (defD "_law_labels" (top 77)) []) : Cal P w K mg base 1 "_law_labels" (ASl K R_llabels) [] := by
  refine cal_argsX O sc_llabels ?_ (by decide) (fun _ _ _ _ _ _ us hl => match us, hl with | [_], _ => rfl) ?_
  · rintro xs Φ ⟨S, _, rfl, _⟩
    exact ⟨rfl, fun y hy => by rw [List.mem_singleton.mp hy]; exact trivial⟩
  · rintro f cdv A outer s H E hr xs Φ ⟨S, ws, rfl, hΦ⟩
    have hsz := sz
    have nd := sc_llabels.nd
    have hnc := ws.nc
    refine sjs_set 1 (y := .l []) (ev_lst ad_nild) ?_ nd
    refine sjs_cons (sj_for (it_range (n := S.callers.length) T.range (ed_lenM eClrS T.len (ed_ic (ed_var 0) rfl)) (by omega)) (N := fun ρ => ∃ x y z, ρ = [.d (eSetting S), .l ((labels S).map eKey), x, y, z])
      (fun c ρ => ∃ x y z, ρ = [.d (eSetting S), .l ((labS S c).map eKey), x, y, z]) ⟨_, _, _, rfl⟩ ?_ ?_ rfl PassesOwn.never) ?_
    · rintro c d ρ hd ⟨x, y, z, rfl⟩
      obtain ⟨hc, rfl⟩ := range_at hd
      obtain ⟨cs, hcs⟩ : ∃ cs, S.callers[c]? = some cs := ⟨_, List.getElem?_eq_getElem hc⟩
      have hng := ws.ng cs (List.mem_of_getElem? hcs)
      have hlc := labS_len ws c
      refine ⟨[(2, dI c)], gd_name 2 nd, ?_⟩
      refine sjs_one (sj_for (it_range (n := cs.groups.length) T.range (ed_lenM eGrpS T.len (ed_ic (ed_xm eClrS (ed_ic (ed_var 0) rfl) (ed_var 2) hcs) rfl)) (by omega))
        (fun g ρ => ∃ y z, ρ = [.d (eSetting S), .l ((labS S c ++ labC S c g).map eKey), .d (dI c), y, z]) ⟨y, z, by show _ = [_, Sl.l ((labS S c ++ []).map eKey), _, _, _]; rw [List.append_nil]; rfl⟩ ?_ ?_ rfl PassesOwn.never)
      · rintro g d ρ hd ⟨y, z, rfl⟩
        obtain ⟨hg, rfl⟩ := range_at hd
        obtain ⟨l, hl⟩ : ∃ l, cs.groups[g]? = some l := ⟨_, List.getElem?_eq_getElem hg⟩
        have ez : lenS S c g = l.length := by unfold lenS grpS; rw [hcs]; show ((cs.groups[g]?).getD []).length = _; rw [hl]; rfl
        have hl4 := lenS_le ws c g
        have hlg := labC_len ws c g
        refine ⟨[(3, dI g)], gd_name 3 nd, ?_⟩
        refine SJs.to [.d (eSetting S), .l ((labS S c ++ labC S c g).map eKey), .d (dI c), .d (dI g), z] ?_
        refine sjs_ext 1 (ds := (labS S c ++ labC S c g).map eKey) (es := (labG S c g).map eKey) (ev_lcE (own := [("_law_n", 4)]) (ds := rangeD l.length) (fun d => .tuple [dI c, dI g, d]) (it_range (n := l.length) T.range (ed_lenM eCallS T.len (ed_xm eGrpS (ed_ic (ed_xm eClrS (ed_ic (ed_var 0) rfl) (ed_var 2) hcs) rfl) (ed_var 3) hl)) (by omega)).ic rfl nd (blkOk_by (N := ["_law_deal_here", "_law_found", "_law_who", "_law_g", "_law_n"]) (sc := defScope (top 77)) (by decide +kernel)) (by rw [rangeD_len]; omega) ?_ (fun d hd => ?_)) rfl ?_ ?_ (slot_name 1)
        · unfold labG rangeD
          rw [ez, List.map_map, List.map_map]
          rfl
        · exact ⟨[(4, d)], fun _ _ _ _ _ => gd_name 4 nd, own_by, fun _ _ _ _ _ => ed_tup (ad_consd (ed_var 2) (ad_consd (ed_var 3) (ad_consd (ed_var 4) ad_nild)))⟩
        · rw [List.length_map, List.length_append, List.length_map]
          unfold labG
          rw [List.length_map, List.length_range]
          omega
        · refine sjs_nil ⟨.d (dI g), z, ?_⟩
          rw [labC_succ, ← List.append_assoc, List.map_append (l₂ := labG S c g)]
          rfl
      · rintro ρ ⟨y, z, rfl⟩
        refine ⟨.d (dI c), y, z, ?_⟩
        rw [rangeD_len, labS_succ]
        have e : nGrp S c = cs.groups.length := by unfold nGrp; rw [hcs]; rfl
        rw [e]
    · rintro ρ ⟨x, y, z, rfl⟩
      rw [rangeD_len]
      exact ⟨x, y, z, rfl⟩
    · rintro ρ ⟨x, y, z, rfl⟩
      exact sjs_retL 1 rfl hΦ (slot_name 1)
end
end TC
set_option Elab.async false
set_option linter.all false
set_option maxRecDepth 100000
set_option maxHeartbeats 4000000
/-! Behind stuck nothing moves. -/
namespace TC
open PySem L2
section
variable {X : Cx} {ρ : List Sl} {i : Nat} {v : V} {W : Wld} {a b c e f o x : Expr} {es : List Expr} {pos p2 p pos' apos cpos : Pos} {P : PyData → Wld → Prop}
theorem ev_ex {y : Sl} (h : EX X ρ e (· = y)) : EV X ρ e y := fun σ H ev Q q => h σ H ev _ fun v H1 z e1 o1 hz => by subst hz; exact q v H1 e1 o1
theorem ed_eqL {ds es : List PyData} (hu : X.A.units + 64 < cLine) (ha : ER X ρ a ds) (hb : ER X ρ b es) (h1 : SeqAt.shaped (.list ds) = true) (h2 : SeqAt.shaped (.list es) = true) : ED X ρ (.Compare a [.Eq] [b] pos) (.bool (PyData.eqv (.list ds) (.list es))) := fun σ H ev Q q =>
  wE_of (pe_cmpR (op_eqD hu) pe_w pe_w (nomark _)) (ha σ H ev _ fun t xs H1 e1 o1 r1 => hb σ H1 (ev.ex e1) _ fun u ys H2 e2 o2 r2 => ⟨.list ds, .list es, .lst (.of (e2 _ _ o1)) (r1.te e2.te).dp, .lst (.of o2) r2.dp, h1, h2, q _ H2 (e1.tr e2) (.bl _)⟩)
/-- [.., ..][e], all of it with the world -/
theorem eo_ixAO {P1 : List PyData → Wld → Prop} (h0 : ρ[i]? = some (.w v W)) (ha : AO X ρ i v W es P1) (hb : ∀ ds W', P1 ds W' → ds.length ≤ sizeLine ∧ EO X (ρ.set i (.w v W')) i v W' b (fun d W2 => ∃ (n : Nat) (y : PyData), d = dI n ∧ ds[n]? = some y ∧ P y W2)) (hs : PlainIx b := by exact fun _ _ => rfl) : EO X ρ i v W (.Subscript (.List es p) b pos) P := fun B F σ H ev Q q =>
  wE_of (pe_ix ix_list (pe_lst pa_w) pe_w hs) (ha B F σ H ev _ fun us H1 ds ws o1 => by
    obtain ⟨W', h1, h2, h3⟩ := ws.nw
    obtain ⟨hz, hb⟩ := hb ds W' h1
    have ev1 := ev.mutW h0 ws.off ws.tk h2 h3
    refine ⟨by rw [o1.len]; exact hz, fun t ht => ?_⟩
    have hi : i < ρ.length := (List.getElem?_eq_some_iff.mp h0).1
    have eu : Ex H1 (upd H1 t (.lst us)) := Ex.up ht
    have nt : ¬ W'.F t := fun f => by
      obtain ⟨o, ho⟩ := W'.dom H1 t h2 f
      rw [ht] at ho; cases ho
    refine hb B F σ _ (ev1.grow eu) _ fun w H3 d ws2 o2 => ?_
    obtain ⟨W2, g1, g2, g3⟩ := ws2.nw
    obtain ⟨n, y, rfl, hy, hP⟩ := g1
    have k3 : H3 t = some (.lst us) := ws2.off t _ upd_same nt
    obtain ⟨z, z1, z2⟩ := dts_at ((o1.te eu.te).te ws2.tk) (atD_nat hy)
    refine ⟨t, us, (n : Int), z, rfl, (show DT X.K H3 w (.int (n : Int)) from o2).of_int, .of k3, z1, q z H3 y ?_ z2⟩
    exact WStep.two (P := fun z => z = W') (WStep.post ⟨ws.off, ws.tk, W', rfl, h2, h3⟩ eu) fun z hz _ _ => hz ▸ ⟨ws2.off, ws2.tk, W2, hP, g2, g3⟩)
end
theorem filterMap_no {α β : Type} : ∀ xs : List α, xs.filterMap (fun _ => (none : Option β)) = []
  | [] => rfl
  | x :: xs => by rw [List.filterMap_cons]; exact filterMap_no xs
/-! ### behind stuck -/
structure Quiet (S : Setting) (st h : State) : Prop where
  ok : Okk S h
  callers : h.callers = st.callers
  mt : Mt h
  cells : h.house.cells = st.house.cells
  book : h.house.book = st.house.book
section
variable {S : Setting} {st h : State}
theorem is1_first {c : Nat} (h : (dueS S st c).is1 = false) : firstDue S st c = none := by
  unfold dueS at h
  cases e : firstDue S st c with
  | none => rfl
  | some k => rw [e] at h; cases h
theorem Quiet.due (sk : Stuck S st) (q : Quiet S st h) {c : Nat} (hc : c < S.callers.length) : dueS S h c = .nothing := by
  have hl : c < st.callers.length := by rw [← q.callers, q.ok.wf.shp.nc]; exact hc
  have hclr := List.getElem?_eq_getElem hl
  have fr := sk.2.2 c _ hclr
  unfold clrFree at fr
  obtain ⟨f1, f2⟩ := Bool.or_eq_false_iff.mp (by rw [Bool.not_eq_true'] at fr; exact fr : ((dueS S st c).is1 || (hasOpen st.callers[c] && !fless st.callers[c].purse whole)) = false)
  have d1 : firstDue S h c = none := by
    have := is1_first f1
    unfold firstDue at this ⊢
    rw [q.callers]; exact this
  unfold dueS
  rw [d1]
  simp only
  have ep : purseOf h c = st.callers[c].purse := by unfold purseOf; rw [q.callers, hclr]; rfl
  rw [ep]
  cases e : fless st.callers[c].purse whole with
  | true => simp
  | false =>
    simp only [Bool.false_eq_true, if_false]
    rw [e] at f2
    have no : hasOpen st.callers[c] = false := by simpa using f2
    have : furDue S h c = none := by
      cases e2 : furDue S h c with
      | none => rfl
      | some kl =>
        obtain ⟨k, l⟩ := kl
        unfold furDue at e2
        rw [q.callers, hclr] at e2
        obtain ⟨i, G, n, x, h1, h2, _, _, h3, _⟩ := furFrom_some e2
        unfold hasOpen at no
        rw [List.any_eq_false] at no
        exact absurd (List.any_eq_true.mpr ⟨x, List.mem_of_getElem? h2, by rw [h3]; rfl⟩) (no G (List.mem_of_getElem? h1))
    rw [this]
theorem Mt.lanes (wf : Wf S h) (m : Mt h) : h.lanes = [[], []] := by
  match e : h.lanes, wf.nl with
  | [a, b], _ =>
    have m1 := m.1
    have m2 := m.2
    unfold lane at m1 m2
    rw [e] at m1 m2
    have m1 : a = [] := m1
    have m2 : b = [] := m2
    rw [m1, m2]
def Step.calm : Step → Prop
  | .go _ | .tick | .tear _ | .fall => True
  | _ => False
theorem Quiet.rf (ok : Okk S st) (sk : Stuck S st) : Quiet S st st := ⟨ok, rfl, sk.2.1, rfl, rfl⟩
theorem Quiet.step (sk : Stuck S st) (q : Quiet S st h) {x : Step} (can : Can S h x) (hx : x.calm) : Quiet S st (stepS S h x) := by
  cases x with
  | go c =>
    have e : stepS S h (.go c) = h := by
      show goS S h c = h
      unfold goS
      rw [q.due sk can]
    rw [e]; exact q
  | tick => exact ⟨q.ok.tick, q.callers, q.mt, q.cells, q.book⟩
  | tear l =>
    have el := q.mt.lanes q.ok.wf
    have e : h.lanes.set l [] = h.lanes := by
      rw [el]
      match l with
      | 0 => rfl
      | 1 => rfl
      | n + 2 => rfl
    have e2 : stepS S h (.tear l) = h := by
      show ({ h with lanes := h.lanes.set l [] } : State) = h
      rw [e]
    rw [e2]; exact q
  | fall => exact ⟨⟨q.ok.wf.fall, q.ok.pd, q.ok.cb, q.ok.bud⟩, q.callers, q.mt, q.cells, q.book⟩
  | get _ _ => exact hx.elim
  | lose _ _ => exact hx.elim
  | double _ _ => exact hx.elim
theorem Quiet.had (q : Quiet S st h) (k : Key) : ansHad h k = ansHad st k := by
  unfold ansHad callAt grp
  rw [q.callers]
end
theorem lay_cells {S : Setting} {st : State} (wf : Wf S st) : Lay 2 (.tuple (st.house.cells.map eCell)) := lay_map fun p hp => lay_tup (lay_cons (lay_str (wf.cells p hp)) (lay_cons (lay_I _) lay_nil))
theorem lay_book {st : State} : Lay 3 (.tuple (st.house.book.map eBook)) := lay_map fun p hp => lay_tup (lay_cons (lay_key _) (lay_cons (lay_ans _) lay_nil))
theorem labels_call {S : Setting} {st : State} (wf : Wf S st) {k : Key} (h : k ∈ labels S) : ∃ x G, callS S k = some x ∧ grp st k.c k.g = some G := by
  have h1 := mem_labels.mp h
  obtain ⟨x, hx⟩ := callS_len h1
  refine ⟨x, ?_⟩
  unfold callS at hx
  cases e : grpS S k.c k.g with
  | none => rw [e] at hx; cases hx
  | some l =>
    obtain ⟨cs, e1, e2⟩ : ∃ cs, S.callers[k.c]? = some cs ∧ cs.groups[k.g]? = some l := by
      unfold grpS at e
      cases e2 : S.callers[k.c]? with
      | none => rw [e2] at e; cases e
      | some cs => rw [e2] at e; exact ⟨cs, rfl, e⟩
    obtain ⟨clr, c1, c2⟩ := wf.shp.clr e1
    have hg : k.g < clr.groups.length := by rw [c2]; exact (List.getElem?_eq_some_iff.mp e2).1
    exact ⟨_, by unfold callS; exact hx, grp_mk c1 (List.getElem?_eq_getElem hg)⟩
section
variable {P : Program} {w : World} {K : PySem.W.Frag} {mg : Str → Option Value} {base : Heap}
theorem sc_lstill : FnScope ["_law_mesh_here", "_law_deal_here", "_law_stand", "_law_here", "_law_lap", "_law_act_here", "_law_label", "_law_who"] ["_law_mesh_here", "_law_deal_here", "_law_stand"] (defScope (top 87)) := ⟨rfl, rfl, rfl, by decide +kernel, rfl, by decide +kernel, by decide +kernel⟩
def R_lstill (K : PySem.W.Frag) (xs : List Sl) (Q : Sl → Wld → Prop) : Prop := ∃ (S : Setting) (st : State) (m : Msh), xs = [.w (.ref m.a) (MW K m), .d (eSetting S), .d (eState st)] ∧ WfS S ∧ 1 ≤ S.callers.length ∧ Okk S st ∧ Stuck S st ∧ MOk m 30 ∧
  ∀ m' : Msh, TugN 24 m m' → Q (.d (.bool true)) (MW K m')
theorem eqv_dueN {c : Nat} {S : Setting} {st : State} (h : dueS S st c = .nothing) : PyData.eqv (eDue (dueS S st c)) (.tuple [.str "nothing"]) = true := by
  rw [h]
  exact (lay_tup (lay_cons (lay_str (by decide +kernel)) lay_nil) : Lay 1 (.tuple [.str "nothing"])).rf
theorem c_lstill (T : Bl mg) (O : Own K mg "_law_is_still" (defD "_law_is_still" (top 87)) []) (ct : Cal P w K mg base 1 "_law_tug" (MSp K (R_tug K)) []) (cr : Cal P w K mg base 11 "run" (PSp K R_run) [.int 400]) (cl : Cal P w K mg base 1 "_law_labels" (ASl K R_llabels) []) (ch : Cal P w K mg base 7 "answer_had" (PSp K R_answer_had) []) (cd : Cal P w K mg base 2 "due" (PSp K R_due) []) : Cal P w K mg base 12 "_law_is_still" (MSp K (R_lstill K)) [] := by
  refine cal_mut O sc_lstill ?_ (by decide) (fun _ _ _ _ _ _ us hl => match us, hl with | [_, _, _], _ => rfl) ?_
  · rintro xs Q ⟨S, st, m, rfl, _⟩; rfl
  · rintro f cdv A outer s H E hr v W xs Q ⟨S, st, m, e, ws, hc1, ok, sk, hm, hQ⟩
    cases e
    have hsz := sz
    have nd := sc_lstill.nd
    have hu := roomU hr
    have hu64 := roomU64 hr
    have hnc := ws.nc
    refine sjs_set 3 (y := .d (eState st)) (ed_var 2) ?_ nd
    refine sjs_cons (M := fun ρ => ∃ (m1 : Msh) (h : State) (s4 s5 : Sl), TugN 24 m m1 ∧ Quiet S st h ∧ ρ = [.w (.ref m.a) (MW K m1), .d (eSetting S), .d (eState st), .d (eState h), s4, s5, .no, .no])
      (sj_for (it_range (n := 12) T.range ed_k (by decide)) (fun k ρ => ∃ (m1 : Msh) (h : State) (s4 s5 : Sl), m1.a = m.a ∧ TugN (2 * k) m m1 ∧ Quiet S st h ∧ ρ = [.w (.ref m.a) (MW K m1), .d (eSetting S), .d (eState st), .d (eState h), s4, s5, .no, .no])
        ⟨m, st, .no, .no, rfl, TugN.rf m, .rf ok sk, rfl⟩ (fun k d ρ hd hI => ?_) (fun ρ hI => ?_) rfl PassesOwn.never) ?_
    · obtain ⟨hk, rfl⟩ := range_at hd
      obtain ⟨m1, h, s4, s5, ha, tn, q, rfl⟩ := hI
      have hm1 : MOk m1 6 := (hm.dn (d := 6 + 2 * k) (by omega)).to tn
      refine ⟨[(4, dI k)], gd_name 4 nd, ?_⟩
      rw [← ha]
      refine SJs.to [.w (.ref m1.a) (MW K m1), .d (eSetting S), .d (eState st), .d (eState h), .d (dI k), s5, .no, .no] ?_
      refine sjs_setO (i := 0) 5 (P := fun d W' => ∃ (x : Step) (m2 : Msh), d = eStep x ∧ Can S h x ∧ x.calm ∧ TugN 2 m1 m2 ∧ W' = MW K m2) rfl (eo_ixAO (P1 := fun ds W' => ∃ (c : Nat) (m2 : Msh), c < S.callers.length ∧ TugTo m1 m2 ∧ ds = [eStep (.go c), eStep .tick, eStep (.tear 0), eStep (.tear 1), eStep .fall] ∧ W' = MW K m2) rfl
        (ao_cons (P1 := fun d W' => ∃ (c : Nat) (m2 : Msh), c < S.callers.length ∧ TugTo m1 m2 ∧ d = eStep (.go c) ∧ W' = MW K m2) rfl (eo_tup (ao_cons rfl (eo_pure (P := fun d W' => d = .str "go" ∧ W' = MW K m1) rfl ed_str ⟨rfl, rfl⟩) fun d1 W1 h1 => ?_)) fun d1 W1 h1 => ?_) (fun ds W' h1 => ?_)) (fun d W' h1 => ?_) nd
      · obtain ⟨rfl, rfl⟩ := h1
        refine ao_cons rfl (eo_tug (m := m1) (many := S.callers.length) ct hr rfl (hm1.dn (by decide)) (ev_w 0) (ed_lenM eClrS T.len (ed_ic (ed_var 1) rfl)) (by omega) (by omega)) fun d1 W1 h1 => ?_
        obtain ⟨c, m3, hc, t3, rfl, rfl⟩ := h1
        exact ao_nil rfl ⟨⟨c, m3, hc, t3, rfl, rfl⟩, by show 2 ≤ sizeLine; omega⟩
      · obtain ⟨c, m2, hc, t2, rfl, rfl⟩ := h1
        refine ao_cons rfl (eo_pure (P := fun d W' => d = eStep .tick ∧ W' = MW K m2) rfl (ed_tup (ad_consd ed_str ad_nild)) ⟨rfl, rfl⟩) fun d1 W1 h1 => ?_
        obtain ⟨rfl, rfl⟩ := h1
        refine ao_cons rfl (eo_pure (P := fun d W' => d = eStep (.tear 0) ∧ W' = MW K m2) rfl (ed_tup (ad_consd ed_str (ad_consd ed_k ad_nild))) ⟨rfl, rfl⟩) fun d1 W1 h1 => ?_
        obtain ⟨rfl, rfl⟩ := h1
        refine ao_cons rfl (eo_pure (P := fun d W' => d = eStep (.tear 1) ∧ W' = MW K m2) rfl (ed_tup (ad_consd ed_str (ad_consd ed_k ad_nild))) ⟨rfl, rfl⟩) fun d1 W1 h1 => ?_
        obtain ⟨rfl, rfl⟩ := h1
        refine ao_cons rfl (eo_pure (P := fun d W' => d = eStep .fall ∧ W' = MW K m2) rfl (ed_tup (ad_consd ed_str ad_nild)) ⟨rfl, rfl⟩) fun d1 W1 h1 => ?_
        obtain ⟨rfl, rfl⟩ := h1
        exact ao_nil rfl ⟨c, m2, hc, t2, rfl, rfl⟩
      · obtain ⟨c, m2, hc, t2, rfl, rfl⟩ := h1
        have hm2 : MOk m2 5 := hm1.to t2.n
        refine ⟨by show 5 ≤ sizeLine; omega, ?_⟩
        rw [← t2.a]
        refine EO.imp (eo_tug (m := m2) (many := 5) ct hr rfl (hm2.dn (by decide)) (ev_w 0) ed_k (by decide) (by decide)) (fun d W' h1 => ?_)
        obtain ⟨n, m3, hn, t3, rfl, rfl⟩ := h1
        have hn : n < 5 := hn
        have fin : ∀ x : Step, Can S h x → x.calm → ∃ (x' : Step) (m2 : Msh), eStep x = eStep x' ∧ Can S h x' ∧ x'.calm ∧ TugN 2 m1 m2 ∧ MW K m3 = MW K m2 := fun x h1 h2 => ⟨x, m3, rfl, h1, h2, t2.n.tr t3.n, rfl⟩
        match n, hn with
        | 0, _ => exact ⟨0, _, rfl, rfl, fin (.go c) hc trivial⟩
        | 1, _ => exact ⟨1, _, rfl, rfl, fin .tick trivial trivial⟩
        | 2, _ => exact ⟨2, _, rfl, rfl, fin (.tear 0) (by show 0 < 2; decide) trivial⟩
        | 3, _ => exact ⟨3, _, rfl, rfl, fin (.tear 1) (by show 1 < 2; decide) trivial⟩
        | 4, _ => exact ⟨4, _, rfl, rfl, fin .fall trivial trivial⟩
      obtain ⟨x, m2, rfl, cx, cm, t2, rfl⟩ := h1
      refine SJs.to [.w (.ref m1.a) (MW K m2), .d (eSetting S), .d (eState st), .d (eState h), .d (dI k), .d (eStep x), .no, .no] ?_
      refine sjs_set 3 (y := .d (eState (stepS S h x))) (ed_ic (ed_callD cr (dds := [dI 400]) (fun H => .cons (.int _) .nil) hr (ad_consd (ed_var 1) (ad_consd (ed_tup (ds := [eStep x]) (ad_consd (ed_var 5) ad_nild)) (ad_consd (ed_var 3) ad_nild))) ⟨S, [x], eState h, 400, h, ws, .inr rfl, ⟨⟨q.ok.wf, q.ok.szs ws, cx⟩, trivial⟩, by simp, rfl, rfl⟩) rfl) ?_ nd
      exact sjs_nil ⟨m2, stepS S h x, .d (dI k), .d (eStep x), t2.a, (tn.tr t2).up (by omega), q.step sk cx cm, rfl⟩
    · obtain ⟨m1, h, s4, s5, ha, tn, q, rfl⟩ := hI
      rw [rangeD_len] at tn
      exact ⟨m1, h, s4, s5, tn, q, rfl⟩
    · rintro ρ ⟨m1, h, s4, s5, tn, q, rfl⟩
      have wt := q.ok.wf
      have hcut : ∀ g : State, cutD [.tuple (g.house.cells.map eCell), .tuple (g.house.book.map eBook), .tuple (g.house.rows.map eRow)] none (some 2) = [.tuple (g.house.cells.map eCell), .tuple (g.house.book.map eBook)] := fun g => cut_to (n := 2)
      have layH : ∀ g : State, Wf S g → Lay 4 (.tuple [.tuple (g.house.cells.map eCell), .tuple (g.house.book.map eBook)]) := fun g wg => lay_tup (lay_cons ((lay_cells wg).up (by decide)) (lay_cons (lay_book.up (by decide)) lay_nil))
      have eH : (.tuple [.tuple (h.house.cells.map eCell), .tuple (h.house.book.map eBook)] : PyData) = .tuple [.tuple (st.house.cells.map eCell), .tuple (st.house.book.map eBook)] := by rw [q.cells, q.book]
      refine sjs_skip (td_is (TW.td (tw_or (k := !mt h) (m := false) (td_is (td_neD hu64 (ed_ic (ed_var 3) rfl) (ed_tup (ad_consd (ed_tup ad_nild) (ad_consd (ed_tup ad_nild) ad_nild))) (lay_lanes wt).shaped lay_e2.shaped) (by rw [eqv_lanes wt])) fun _ => tw_or1 (td_is (td_neD (x := .tuple [.tuple (h.house.cells.map eCell), .tuple (h.house.book.map eBook)]) (y := .tuple [.tuple (st.house.cells.map eCell), .tuple (st.house.book.map eBook)]) hu64 (ed_is (ed_sl (l := none) (u := some 2) (ed_ic (ed_var 3) rfl) trivial (show ED _ _ _ (.int 2) from ed_int)) (by rw [hcut])) (ed_is (ed_sl (l := none) (u := some 2) (ed_ic (ed_var 2) rfl) trivial (show ED _ _ _ (.int 2) from ed_int)) (by rw [hcut])) (layH h wt).shaped (layH st ok.wf).shaped) (by rw [eH, (layH st ok.wf).rf]; rfl)))) (by rw [mt_iff.mpr q.mt]; rfl)) ?_
      refine sjs_skip (td_is (td_neL hu64 (ds := []) (es := []) (er_new (EV.eq (ev_lcIf (own := [("_law_label", 6)]) (ds := (labels S).map eKey) (fun _ => none) (ic_list (er_new (ev_ex (ex_callB cl hr (ab_cons (eb_d (ed_var 1)) ab_nil) (fun xs hx => ?_))))) rfl nd (blkOk_by (N := ["_law_mesh_here", "_law_deal_here", "_law_stand", "_law_here", "_law_lap", "_law_act_here", "_law_label", "_law_who"]) (sc := defScope (top 87)) (by decide +kernel)) ?_ (fun d hd => ?_)) ?_)) (er_new (ev_lst ad_nild)) (Lay.shaped (n := 1) (lay_lst lay_nil)) (Lay.shaped (n := 1) (lay_lst lay_nil))) (m := false) (by simp [PyData.eqv, PyData.eqvAll])) ?_
      · obtain ⟨y, ys, rfl, rfl, rfl⟩ := hx
        exact ⟨S, ws, rfl, rfl⟩
      · rw [List.length_map]
        have := labS_len ws S.callers.length
        unfold labels
        omega
      · obtain ⟨k, hk, rfl⟩ := List.mem_map.mp hd
        obtain ⟨x, G, hx, hG⟩ := labels_call wt hk
        obtain ⟨x2, G2, hx2, hG2⟩ := labels_call ok.wf hk
        refine ⟨[(6, eKey k)], fun _ _ _ _ _ => gd_name 6 nd, own_by, false, fun _ _ _ _ _ => td_is (td_neD hu64 (ed_call ch hr (ad_consd (ed_var 1) (ad_consd (ed_var 3) (ad_consd (ed_var 6) ad_nild))) ⟨S, h, k, x, G, ws, rfl, hx, hG, rfl⟩) (ed_call ch hr (ad_consd (ed_var 1) (ad_consd (ed_var 2) (ad_consd (ed_var 6) ad_nild))) ⟨S, st, k, x2, G2, ws, rfl, hx2, hG2, rfl⟩) (lay_oans _).shaped (lay_oans _).shaped) ?_, fun _ => rfl, fun h => by cases h⟩
        rw [q.had k, (lay_oans _).rf]
        rfl
      · rw [filterMap_no]
      refine sjs_ret (d := .bool true) (ed_is (ed_eqL hu64 (ds := []) (es := []) (er_new (EV.eq (ev_lcIf (own := [("_law_who", 7)]) (ds := rangeD S.callers.length) (fun _ => none) (it_range (n := S.callers.length) T.range (ed_lenM eClrS T.len (ed_ic (ed_var 1) rfl)) (by omega)).ic rfl nd (blkOk_by (N := ["_law_mesh_here", "_law_deal_here", "_law_stand", "_law_here", "_law_lap", "_law_act_here", "_law_label", "_law_who"]) (sc := defScope (top 87)) (by decide +kernel)) ?_ (fun d hd => ?_)) ?_)) (er_new (ev_lst ad_nild)) (Lay.shaped (n := 1) (lay_lst lay_nil)) (Lay.shaped (n := 1) (lay_lst lay_nil))) (by simp [PyData.eqv, PyData.eqvAll])) ⟨MW K m1, rfl, hQ m1 tn⟩
      · rw [rangeD_len]; omega
      · obtain ⟨i, hi⟩ := List.mem_iff_getElem?.mp hd
        obtain ⟨hc, rfl⟩ := range_at hi
        refine ⟨[(7, dI i)], fun _ _ _ _ _ => gd_name 7 nd, own_by, false, fun _ _ _ _ _ => td_is (td_neD hu64 (ed_call cd hr (ad_consd (ed_var 1) (ad_consd (ed_var 3) (ad_consd (ed_var 7) ad_nild))) ⟨S, h, i, rfl, wt.shp, by rw [wt.shp.nc]; exact hc, wt.laneOk i, rfl⟩) (ed_tup (ad_consd ed_str ad_nild)) ?_ ?_) (by rw [eqv_dueN (q.due sk hc)]; rfl), fun _ => rfl, fun h => by cases h⟩
        · rw [q.due sk hc]
          exact (lay_tup (lay_cons (lay_str (by decide +kernel)) lay_nil) : Lay 1 (.tuple [.str "nothing"])).shaped
        · exact (lay_tup (lay_cons (lay_str (by decide +kernel)) lay_nil) : Lay 1 (.tuple [.str "nothing"])).shaped
      · rw [filterMap_no]
end
end TC
set_option Elab.async false
set_option linter.all false
set_option maxRecDepth 100000
set_option maxHeartbeats 4000000
/-! What the law itself needs: tests and calls that change a world; plain ends. -/
namespace TC
open PySem L2
section
variable {X : Cx} {ρ : List Sl} {i : Nat} {v : V} {W : Wld} {a b c e f o x : Expr} {es : List Expr} {pos p2 p pos' apos cpos : Pos}
/-- a test that changes the world of slot i -/
def TO (X : Cx) (ρ : List Sl) (i : Nat) (v : V) (W : Wld) (e : Expr) (P : Bool → Wld → Prop) : Prop := ∀ B F σ H, EnvB X.K B F H σ ρ → ∀ Q : Bool → Hp → Prop, (∀ k H', WStep W (P k) H H' → Q k H') → wT X e σ H Q
def WO (X : Cx) (ρ : List Sl) (i : Nat) (v : V) (W : Wld) (e : Expr) (P : Bool → Wld → Prop) : Prop := ∀ B F σ H, EnvB X.K B F H σ ρ → ∀ Q : Bool → Hp → Prop, (∀ k H', WStep W (P k) H H' → Q k H') → wW X e σ H Q
variable {P : Bool → Wld → Prop}
theorem WO.to (h : WO X ρ i v W e P) : TO X ρ i v W e P := fun B F σ H ev Q q => wT_of (pw_w).pt (h B F σ H ev Q q)
theorem to_eo (h : EO X ρ i v W e fun d W' => ∃ k, d = .bool k ∧ P k W') (he : ∀ whole, isTrue e X.env whole = (do let v ← whole; standAt e.pos; holding [v] (truthy v)) := by intro _; rfl) : TO X ρ i v W e P := fun B F σ H ev Q q =>
  wT_of (pt_val pe_w he) (h B F σ H ev _ fun u H1 d ws o1 => by
    obtain ⟨W', ⟨k, rfl, hP⟩, h2, h3⟩ := ws.nw
    exact ⟨k, (show DT X.K H1 u (.bool k) from o1).of_bool, q k H1 ⟨ws.off, ws.tk, W', hP, h2, h3⟩⟩)
theorem to_not (h : TO X ρ i v W a fun k W' => P (!k) W') : TO X ρ i v W (.UnaryOp .Not a pos) P := fun B F σ H ev Q q => wT_of (pt_not pt_w) (h B F σ H ev _ fun k H1 ws => q (!k) H1 ws)
theorem wo_and1 (h : TO X ρ i v W a P) : WO X ρ i v W (.BoolOp .And [a] pos) P := fun B F σ H ev Q q => wW_of (pw_and1 pt_w) (h B F σ H ev Q q)
theorem wo_or1 (h : TO X ρ i v W a P) : WO X ρ i v W (.BoolOp .Or [a] pos) P := fun B F σ H ev Q q => wW_of (pw_or1 pt_w) (h B F σ H ev Q q)
theorem wo_orF (h : TD X ρ a false) (t : WO X ρ i v W (.BoolOp .Or (b :: es) pos) P) : WO X ρ i v W (.BoolOp .Or (a :: b :: es) pos) P := fun B F σ H ev Q q =>
  wW_of (pw_or pt_w pw_w) (h σ H ev.env _ fun H1 e1 => t B F σ H1 (ev.grow e1) Q fun k H2 ws => q k H2 (.pre e1 ws))
theorem wo_and {k : Bool} (h0 : ρ[i]? = some (.w v W)) (h : TD X ρ a k) (t : k = true → WO X ρ i v W (.BoolOp .And (b :: es) pos) P) (hf : k = false → P false W) : WO X ρ i v W (.BoolOp .And (a :: b :: es) pos) P := fun B F σ H ev Q q =>
  wW_of (pw_and pt_w pw_w) (h σ H ev.env _ fun H1 e1 => by
    cases k with
    | true => exact t rfl B F σ H1 (ev.grow e1) Q fun k H2 ws => q k H2 (.pre e1 ws)
    | false => exact q false H1 (.pre e1 (.rf ((ev.grow e1).env.sl i _ h0).2 (hf rfl))))
variable {st : Stmt} {rest th : List Stmt} {N : List Sl → Prop} {R : Sl → List Sl → Prop}
theorem sjs_skipO {PW : Wld → Prop} (h0 : ρ[i]? = some (.w v W)) (h : TO X ρ i v W c fun k W' => k = false ∧ PW W') (t : ∀ W', PW W' → SJs X (ρ.set i (.w v W')) rest N R) : SJs X ρ (.If c th [] pos :: rest) N R :=
  sjs_cons (M := fun ρ' => ∃ W', PW W' ∧ ρ' = ρ.set i (.w v W')) (fun B F σ H ev D n r => wS_of (ps_if pt_w pss_w pss_w) (h B F σ H ev _ fun k H1 ws => by
    obtain ⟨W', ⟨rfl, hP⟩, h2, h3⟩ := ws.nw
    have ev1 := ev.mutW h0 ws.off ws.tk h2 h3
    exact (sjs_nil (N := fun ρ' => ∃ W', PW W' ∧ ρ' = ρ.set i (.w v W')) (R := R) ⟨W', hP, rfl⟩ : SJs X (ρ.set i (.w v W')) [] _ R) B F σ H1 ev1 D (fun σ2 H2 ρ2 e2 t2 m => n σ2 H2 ρ2 e2 (ws.tk.tr t2) m) fun v H2 d ρ2 t2 o q => r v H2 d ρ2 (ws.tk.tr t2) o q)) fun ρ' m => by
    obtain ⟨W', hP, rfl⟩ := m
    exact t W' hP
theorem dts_sls {K : PySem.W.Frag} {H : Hp} : ∀ {vs : List V} {ds : List PyData}, DTs K H vs ds → SlsOk K H vs (ds.map .d)
  | _, _, .nil => .nil
  | _, _, .cons z t => .cons ⟨_, rfl, z⟩ (dts_sls t)
/-- the call of a plan -/
def EPl (X : Cx) (ρ : List Sl) (i : Nat) (v : V) (W : Wld) (e : Expr) (P : PyData → Wld → Prop) : Prop := ∀ B F σ H, EnvB X.K B F H σ ρ → ∀ Q : VK, (∀ q H' d, WStep W (P d) H H' → (PlanW X.K q d).ok H' → Q (.ref q) H') → wE X e σ H Q
theorem epl_call {k j : Nat} {x y : Str} {px : Pos} {G : List Sl → (Sl → Wld → Prop) → Prop} {P1 : List PyData → Wld → Prop} {P : PyData → Wld → Prop} (cl : Cal X.prog X.w X.K X.mg X.base k x (MSp X.K G) []) (hr : Room j X.A) (h0 : ρ[i]? = some (.w v W)) (hn : EV X ρ (.Name y px) (.r v)) (ha : AO X ρ i v W es P1)
    (h : ∀ ds W', P1 ds W' → ∃ PP : Sl → Wld → Prop, G (.w v W' :: ds.map .d) PP ∧ ∀ z W2, PP z W2 → ∃ q d, z = .w (.ref q) (PlanW X.K q d) ∧ P d W2) (hk : k ≤ j := by decide) (hg : Gl X x := by rfl)
    (hdb : (x == ("__debug__" : Str)) = false := by decide) (he : starEach (.Name y px :: es) X.env = (false, eval (.Name y px) X.env) :: starEach es X.env := by rfl) (hpl : (backTo pos (starEach es X.env)).any (·.1) = false := by rfl) : EPl X ρ i v W (.Call (.Name x p) (.Name y px :: es) [] pos) P := fun B F σ H ev Q q =>
  wE_of (pe_own cl hr hk hg (pa_cons pe_w pa_w he) hdb he hpl) (hn σ H ev.env _ fun u H1 e1 o1 => ha B F σ H1 (ev.grow e1) _ fun us H2 ds ws o2 => by
    have o1 : u = v := o1
    subst o1
    obtain ⟨W', h1, h2, h3⟩ := ws.nw
    obtain ⟨PP, hG, hP⟩ := h ds W' h1
    have s2 : SlsOk X.K H2 us (ds.map .d) := dts_sls o2
    refine ⟨u, W', ds.map .d, PP, by rw [List.append_nil]; exact .cons ⟨rfl, h2⟩ s2, fun z hz => ?_, hG, fun u2 H3 z W2 f1 t f2 f3 rv hPP => ?_⟩
    · obtain ⟨d, _, rfl⟩ := List.mem_map.mp hz; exact trivial
    · obtain ⟨r, d, rfl, hPd⟩ := hP z W2 hPP
      obtain ⟨rfl, ok, _⟩ := rv
      exact q r H3 d (.pre e1 (WStep.two (P := fun z => z = W') ⟨ws.off, ws.tk, W', rfl, h2, h3⟩ fun z hz _ _ => hz ▸ ⟨f1, t, W2, hPd, f2, f3⟩)) ok)
/-- x, y, z = a plan -/
theorem sjs_unp (j1 j2 j3 : Nat) {x1 x2 x3 : Str} {q1 q2 q3 tp : Pos} {kt : Nat} {P : PyData → Wld → Prop} (h0 : ρ[i]? = some (.w v W)) (h : EPl X ρ i v W e P) (t : ∀ d W', P d W' → SJs X ((((ρ.set i (.w v W')).set j1 (.d d)).set j2 .no).set j3 .no) rest N R) (hc : X.calm = true) (hN : X.N.Nodup) (hi1 : X.N[j1]? = some x1 := by rfl) (hi2 : X.N[j2]? = some x2 := by rfl) (hi3 : X.N[j3]? = some x3 := by rfl)
    (hx1 : Loc X.env.scope x1 := by first | exact Or.inl rfl | exact Or.inr rfl) (hx2 : Loc X.env.scope x2 := by first | exact Or.inl rfl | exact Or.inr rfl) (hx3 : Loc X.env.scope x3 := by first | exact Or.inl rfl | exact Or.inr rfl)
    (hf1 : X.fn x1 = true ∨ X.env.scope.names.lookup x1 = some .local := by first | exact .inl rfl | exact .inr rfl) (hf2 : X.fn x2 = true ∨ X.env.scope.names.lookup x2 = some .local := by first | exact .inl rfl | exact .inr rfl) (hf3 : X.fn x3 = true ∨ X.env.scope.names.lookup x3 = some .local := by first | exact .inl rfl | exact .inr rfl)
    (ha1 : (assignEach [.Name x1 q1, .Name x2 q2, .Name x3 q3] X.env).map (·.2) = assign (.Name x1 q1) X.env :: (assignEach [.Name x2 q2, .Name x3 q3] X.env).map (·.2) := by rfl) (ha2 : (assignEach [.Name x2 q2, .Name x3 q3] X.env).map (·.2) = assign (.Name x2 q2) X.env :: (assignEach [.Name x3 q3] X.env).map (·.2) := by rfl) (ha3 : (assignEach [.Name x3 q3] X.env).map (·.2) = assign (.Name x3 q3) X.env :: (assignEach [] X.env).map (·.2) := by rfl)
    (hn : (assignEach [.Name x1 q1, .Name x2 q2, .Name x3 q3] X.env).length = 3 := by rfl) (hst : (assignEach [.Name x1 q1, .Name x2 q2, .Name x3 q3] X.env).findIdx? (·.1) = none := by rfl)
    (hs : swapsWithSole [.Tuple [.Name x1 q1, .Name x2 q2, .Name x3 q3] kt tp] e pos.line X.env = pure false := by rfl) (hw : swappedStores [.Tuple [.Name x1 q1, .Name x2 q2, .Name x3 q3] kt tp] e X.env = pure none := by rfl)
    (h1 : (assignEach [.Tuple [.Name x1 q1, .Name x2 q2, .Name x3 q3] kt tp] X.env).map (·.2) = [assign (.Tuple [.Name x1 q1, .Name x2 q2, .Name x3 q3] kt tp) X.env] := by rfl) : SJs X ρ (.Assign [.Tuple [.Name x1 q1, .Name x2 q2, .Name x3 q3] kt tp] e pos :: rest) N R :=
  sjs_cons (M := fun ρ2 => ∃ d W', P d W' ∧ ρ2 = (((ρ.set i (.w v W')).set j1 (.d d)).set j2 .no).set j3 .no) (fun B F σ H ev D k r => wS_of (ps_asg pe_w (pg_tup hc (pgs_cons (pg_name hN hi1 hx1 hf1) (pgs_cons (pg_name hN hi2 hx2 hf2) (pgs_cons (pg_name hN hi3 hx3 hf3) pgs_nil ha3) ha2) ha1) hn hst) hs hw h1) (h B F σ H ev _ fun q H1 d ws ok => by
    obtain ⟨W', hP, h2, h3⟩ := ws.nw
    obtain ⟨v1, v2, v3, k1, k2⟩ := ok
    have ev1 := ev.mutW h0 ws.off ws.tk h2 h3
    have ev2 := ((ev1.put (i := j1) (v := v1) (x := .d d) (Ex.rf H1) k2).put (i := j2) (v := v2) (x := .no) (Ex.rf H1) trivial).put (i := j3) (v := v3) (x := .no) (Ex.rf H1) trivial
    exact ⟨q, [v1, v2, v3], rfl, .of k1, rfl, v1, [v2, v3], rfl, v2, [v3], rfl, v3, [], rfl, rfl, k _ H1 _ ev2 ws.tk ⟨d, W', hP, rfl⟩⟩)) fun ρ2 m => by
    obtain ⟨d, W', hP, rfl⟩ := m
    exact t d W' hP
theorem td_inG {d : PyData} {ds : List PyData} {n m : Nat} (hu : X.A.units + 65 < cLine) (ha : ED X ρ a d) (hb : ED X ρ b (.tuple ds)) (h1 : Lay n d) (h2 : Lay m (.tuple ds)) (hn : n ≤ 64 := by decide) (hm' : m ≤ 64 := by decide) (hm : behindInMarks .In b = false := by with_unfolding_all rfl) : TD X ρ (.Compare a [.In] [b] pos) (ds.any fun z => PyData.eqv z d) :=
  td_cmp (op_inT hu) ha hb (fun v w H Q q1 q2 q => ⟨d, ds, q1.dp, q2.dp, h1.shaped hn, h2.shaped hm', q⟩) hm
end
/-! ### plain ends -/
section
variable {S : Setting} {st st' : State}
theorem Fr_.end_ {xs : List Step} {m : Nat} (h : Fr_ S st xs m st') : Wf S st' ∧ over S st' = true := by
  induction h with
  | done w o => exact ⟨w, o⟩
  | step _ _ _ _ ih => exact ih
theorem thr_had (wf : Wf S st) : Thr S st ↔ ∀ k ∈ labels S, (ansHad st k).isSome = true := by
  constructor
  · intro t k hk
    have hn := mem_labels.mp hk
    obtain ⟨x, G, hx, hG⟩ := labels_call wf hk
    have gok := wf.grp _ _ _ hG
    obtain ⟨l, hl⟩ := wf.shp.grpS_ hG
    have el : lenS S k.c k.g = l.length := by unfold lenS; rw [hl]; rfl
    have h1 := t _ _ l G hl hG
    rw [gok.hd] at h1
    have h2 := heardOf_le G.calls
    have hlt : k.n < G.calls.length := by omega
    have ex := List.getElem?_eq_getElem hlt
    have := (heardOf_at G.calls k.n _ (by omega) ex).mp (by omega)
    unfold ansHad callAt
    rw [hG]
    show (((G.calls[k.n]?).bind (·.ans))).isSome = true
    rw [ex]
    exact this
  · intro h c g l G hl hG
    have gok := wf.grp _ _ _ hG
    have el : lenS S c g = l.length := by unfold lenS; rw [hl]; rfl
    rw [gok.hd]
    by_cases q : l.length ≤ heardOf G.calls
    · exact q
    · have hk : (⟨c, g, heardOf G.calls⟩ : Key) ∈ labels S := mem_labels.mpr (by show heardOf G.calls < lenS S c g; omega)
      have a := h _ hk
      unfold ansHad callAt at a
      have hG' : grp st (⟨c, g, heardOf G.calls⟩ : Key).c (⟨c, g, heardOf G.calls⟩ : Key).g = some G := hG
      rw [hG'] at a
      cases e : G.calls[heardOf G.calls]? with
      | none =>
        have a : (((G.calls[heardOf G.calls]?).bind (·.ans))).isSome = true := a
        rw [e] at a; cases a
      | some x =>
        have a : (((G.calls[heardOf G.calls]?).bind (·.ans))).isSome = true := a
        rw [e] at a
        exact absurd ((heardOf_at G.calls _ x (Nat.le_refl _) e).mpr a) (Nat.lt_irrefl _)
/-- labels without an answer -/
def fLack (st : State) : PyData → Option PyData
  | .tuple [.int c, .int g, .int n] => if (ansHad st ⟨c.toNat, g.toNat, n.toNat⟩).isNone then some (.tuple [.int c, .int g, .int n]) else none
  | _ => none
theorem fLack_key (k : Key) : fLack st (eKey k) = if (ansHad st k).isNone then some (eKey k) else none := by
  obtain ⟨c, g, n⟩ := k
  show (if (ansHad st ⟨((c : Int)).toNat, ((g : Int)).toNat, ((n : Int)).toNat⟩).isNone then _ else _) = _
  simp only [Int.toNat_natCast]
  rfl
def lacks (S : Setting) (st : State) : List PyData := ((labels S).map eKey).filterMap (fLack st)
theorem lacks_lay {d : PyData} (h : d ∈ lacks S st) : Lay 1 d := by
  obtain ⟨e, he, h⟩ := List.mem_filterMap.mp h
  obtain ⟨k, _, rfl⟩ := List.mem_map.mp he
  rw [fLack_key] at h
  split at h
  · cases h; exact lay_key k
  · cases h
theorem lacks_nil (wf : Wf S st) : (lacks S st).isEmpty = thr S st := by
  have e : (lacks S st) = [] ↔ Thr S st := by
    unfold lacks
    rw [thr_had wf, List.filterMap_eq_nil_iff]
    constructor
    · intro h k hk
      have := h (eKey k) (List.mem_map.mpr ⟨k, hk, rfl⟩)
      rw [fLack_key] at this
      split at this
      · cases this
      · rename_i q
        cases a : ansHad st k with
        | none => rw [a] at q; exact absurd rfl q
        | some _ => rfl
    · intro h d hd
      obtain ⟨k, hk, rfl⟩ := List.mem_map.mp hd
      rw [fLack_key]
      have := h k hk
      cases a : ansHad st k with
      | none => rw [a] at this; cases this
      | some _ => rfl
  by_cases t : Thr S st
  · rw [e.mpr t, thr_iff.mpr t]; rfl
  · rw [thr_not t]
    cases q : lacks S st with
    | nil => exact absurd (e.mp q) t
    | cons _ _ => rfl
theorem eqv_nil (ds : List PyData) : PyData.eqv (.list ds) (.list []) = ds.isEmpty := by cases ds <;> simp [PyData.eqv, PyData.eqvAll]
/-! ### data that can be compared -/
theorem lay_fr (p : Fr) : Lay 1 (eFr p) := lay_tup (lay_cons (lay_I _) (lay_cons (lay_I _) lay_nil))
theorem lay_call (x : Call) : Lay 2 (eCall x) := lay_tup (lay_cons ((lay_I _).up (by decide)) (lay_cons ((lay_I _).up (by decide)) (lay_cons ((lay_I _).up (by decide)) (lay_cons (lay_oans _) lay_nil))))
theorem lay_grp (g : Grp) : Lay 4 (eGrp g) := lay_tup (lay_cons ((lay_I _).up (by decide)) (lay_cons (lay_map (n := 2) fun x _ => lay_call x) lay_nil))
theorem lay_clr (c : Clr) : Lay 6 (eClr c) := lay_tup (lay_cons ((lay_fr _).up (by decide)) (lay_cons ((lay_I _).up (by decide)) (lay_cons (lay_map (n := 4) fun x _ => lay_grp x) lay_nil)))
theorem lay_row {r : Row} (h : RowOk S st r) : Lay 3 (eRow r) := lay_tup (lay_cons ((lay_tup (n := 0) (lay_cons (lay_I _) (lay_cons (lay_I _) lay_nil))).up (by decide)) (lay_cons ((lay_I _).up (by decide)) (lay_cons ((lay_I _).up (by decide)) (lay_cons (lay_map (n := 1) fun x _ => lay_ans x) (lay_cons (lay_map (n := 1) fun x hx => lay_wait (h.wt x hx).1) lay_nil)))))
theorem lay_state (wf : Wf S st) : Lay 8 (eState st) := lay_tup (lay_cons ((lay_I _).up (by decide)) (lay_cons (lay_map (n := 6) fun c _ => lay_clr c) (lay_cons ((lay_lanes wf).up (by decide)) (lay_cons ((lay_tup (n := 4) (lay_cons ((lay_cells wf).up (by decide)) (lay_cons (lay_book.up (by decide)) (lay_cons (lay_map (n := 3) fun r hr => lay_row (wf.rows r hr)) lay_nil)))).up (by decide)) lay_nil))))
/-! ### events -/
theorem evS_word (x : Step) : ∃ (s : Str) (r : List PyData), evS S st x = .tuple (.str s :: r) ∧ PyData.strOk s = true := by
  cases x with
  | go c => exact ⟨_, _, eDue_eq _, by cases dueS S st c <;> (dsimp only [Due.word]; decide +kernel)⟩
  | get l k =>
    show ∃ s r, evGet S st l k = _ ∧ _
    unfold evGet
    split
    · exact ⟨_, _, rfl, by decide +kernel⟩
    · exact ⟨_, _, rfl, by decide +kernel⟩
  | lose l k => exact ⟨_, _, rfl, by decide +kernel⟩
  | double l k => exact ⟨_, _, rfl, by decide +kernel⟩
  | tick => exact ⟨_, _, rfl, by decide +kernel⟩
  | tear l => exact ⟨_, _, rfl, by decide +kernel⟩
  | fall => exact ⟨_, _, rfl, by decide +kernel⟩
theorem evAll_word : ∀ {xs : List Step} {st : State} {d : PyData}, d ∈ evAll S xs st → ∃ (s : Str) (r : List PyData), d = .tuple (.str s :: r) ∧ PyData.strOk s = true
  | [], _, d, h => by cases h
  | x :: xs, st, d, h => by
    rcases List.mem_cons.mp h with rfl | h
    · exact evS_word x
    · exact evAll_word h
def fTry (d : PyData) : Option PyData := if tryB d then some d else none
theorem fTry_len (S : Setting) (xs : List Step) (st : State) : ((evAll S xs st).filterMap fTry).length = triesN S xs st := by
  unfold triesN
  generalize evAll S xs st = ds
  induction ds with
  | nil => rfl
  | cons d ds ih =>
    rw [List.filterMap_cons, List.filter_cons]
    cases h : tryB d with
    | true =>
      rw [show fTry d = some d by unfold fTry; rw [h]; rfl]
      simpa using ih
    | false =>
      rw [show fTry d = none by unfold fTry; rw [h]; rfl]
      simpa using ih
theorem any_try (s : Str) (r : List PyData) : ([PyData.str "first", PyData.str "further"].any fun z => PyData.eqv z (.str s)) = tryB (.tuple (.str s :: r)) := by
  show (PyData.eqv (.str "first") (.str s) || (PyData.eqv (.str "further") (.str s) || false)) = (decide (s = "first") || decide (s = "further"))
  rw [Bool.or_false]
  have e : ∀ a : Str, PyData.eqv (.str a) (.str s) = decide (s = a) := fun a => by
    simp only [PyData.eqv]
    by_cases h : s = a
    · subst h; simp
    · simp [h, Ne.symm h]
  rw [e, e]
/-- the words -/
theorem word_thr : decide (wordS S st = "through") = thr S st := by
  unfold wordS
  cases thr S st
  · show decide (("stuck" : Str) = "through") = false; decide +kernel
  · show decide (("through" : Str) = "through") = true; decide +kernel
theorem word_stk (h : over S st = true) : decide (wordS S st = "stuck") = stuck S st := by
  unfold over at h
  unfold wordS
  cases t : thr S st with
  | true =>
    have : stuck S st = false := stuck_not fun s => s.1 (thr_iff.mp t)
    rw [this]
    show decide (("through" : Str) = "stuck") = false; decide +kernel
  | false =>
    rw [t, Bool.false_or] at h
    rw [h]
    show decide (("stuck" : Str) = "stuck") = true; decide +kernel
theorem word_lay : PyData.strOk (wordS S st) = true := by
  unfold wordS
  cases thr S st
  · show PyData.strOk ("stuck" : Str) = true; decide +kernel
  · show PyData.strOk ("through" : Str) = true; decide +kernel
end
end TC
set_option Elab.async false
set_option linter.all false
set_option maxRecDepth 100000
set_option maxHeartbeats 8000000
/-! The law itself. -/
namespace TC
open PySem L2
section
variable {S : Setting} {st : State}
theorem Old.step (wt : Wf S st) (h : Old 0 st) (x : Step) : Old 0 (stepS S st x) := by
  cases x with
  | go c => exact Old.go wt h
  | get l k => exact Old.get h
  | lose l k => exact h.same rfl rfl
  | double l k => exact h.same rfl rfl
  | tick => exact fun clr a G b y c e => by have := h clr a G b y c e; show y.last + 0 ≤ st.clock + 1; omega
  | tear l => exact h.same rfl rfl
  | fall => exact h.same rfl rfl
theorem Old.all (ws : WfS S) : ∀ {xs : List Step} {n : Nat} {st : State}, Inv S n st → CanAll S xs st → Old 0 st → Old 0 (runAll S xs st)
  | [], _, _, _, _, o => o
  | x :: xs, n, st, h, c, o => Old.all ws (xs := xs) (h.step ws c.1) c.2 (o.step h.wf x)
theorem old_begun : Old 0 (begunS S) := fun clr h G hG x hx => by
  obtain ⟨cs, _, rfl⟩ := List.mem_map.mp h
  obtain ⟨_, _, rfl⟩ := List.mem_map.mp hG
  cases hx
theorem tries_le {xs : List Step} : triesN S xs st ≤ xs.length := by
  unfold triesN
  refine Nat.le_trans (List.length_filter_le _ _) ?_
  rw [evAll_len]
  exact Nat.le_refl _
theorem isNo_had (a : Option Ans) : isNo (eOAns a) = a.isNone := by
  cases a with
  | none => rfl
  | some a => cases a <;> rfl
end
section
variable {P : Program} {w : World} {K : PySem.W.Frag} {mg : Str → Option Value} {base : Heap}
theorem sc_law : FnScope ["_law_script", "_law_mesh_here", "_law_lap", "_law_deal_here", "_law_plan_here", "_law_own", "_law_done", "_law_first", "_law_word", "_law_many", "_law_steps_now", "_law_stand", "_law_events_now", "_law_tries", "_law_lacking", "_law_here", "_law_k", "_law_one", "_law_label"] ["_law_script"] (defScope (top 88)) := ⟨rfl, rfl, rfl, by decide +kernel, rfl, by decide +kernel, by decide +kernel⟩
def R_law (K : PySem.W.Frag) (xs : List Sl) (Φ : Sl → Prop) : Prop := ∃ (a : Addr) (W : Wld) (ns : List Int), xs = [.b (.ref a) W] ∧ (∀ H, W.ok H → SqL K H a (ns.map V.int)) ∧ Φ (.d (.bool true))
theorem fn_argsX {x : Str} {st : Stmt} {N ps : List Str} {k : Nat} {R : List Sl → (Sl → Prop) → Prop} {f : Addr} {fd : FuncData} (F : FunD K x x (defArgs st) (defBody st) (defScope st) [] [] f fd) (S : FnScope N ps (defScope st)) (len : ∀ xs Φ, R xs Φ → xs.length = ps.length ∧ ∀ y ∈ xs, Pln y) (hn : ps.length ≤ N.length)
    (body : ∀ (f : Addr) (cdv : Value) (A : Around) (outer : List PySem.Env) (s : Shared) (H : Hp) (E : XK), Room k (A.deeper (PyProof.Rows.envOfC x (defScope st) s.heap.objs.size f cdv)) → ∀ xs Φ, R xs Φ →
      SJs (BX P w K mg base N x (defScope st) f cdv A outer s H E) (xs ++ List.replicate (N.length - xs.length) .no) (defBody st) (fun _ => Φ (.d .none)) (fun y _ => Φ y)) : FnOk P w K mg base CX0 (k + 1) f fd ps (ASl K R) := by
  refine F.ok (N := N) S (fun vs H Q E h => ?_) (fun cdv A outer s H vs Q E hr h => ?_)
  · obtain ⟨ds, Φ, h1, h2, _⟩ := h
    rw [h1.len]
    exact (len _ _ h2).1
  · obtain ⟨ds, Φ, h1, h2, h3⟩ := h
    refine ⟨_, PSs.nox pss_w, ?_⟩
    have hl : ds.length ≤ N.length := by rw [(len _ _ h2).1]; exact hn
    refine body f cdv A outer s H E hr ds Φ h2 H (fun _ => False) _ H (start_envA h1 (len _ _ h2).2 hl) _ (fun σ' H' ρ' e t n => ?_) fun v H' y ρ' t o q => ?_
    · exact h3 .non H' (.d .none) e.ex .non n
    · exact h3 v H' y (o.1.elim fun _ z => z.ex) o.2.vok q
theorem fn_law {f : Addr} {fd : FuncData} (T : Bl mg) (O : FunD K "law" "law" (defArgs (top 88)) (defBody (top 88)) (defScope (top 88)) [] [] f fd) (cm : Cal P w K mg base 1 "_law_mesh" (ASl K (R_lmesh K)) []) (ct : Cal P w K mg base 1 "_law_tug" (MSp K (R_tug K)) []) (cdl : Cal P w K mg base 2 "_law_deal" (MSp K (R_deal K)) []) (cpl : Cal P w K mg base 5 "_law_plan" (MSp K (R_lplan K)) []) (cl : Cal P w K mg base 1 "_law_labels" (ASl K R_llabels) []) (cst : Cal P w K mg base 12 "_law_is_still" (MSp K (R_lstill K)) [])
    (cr2 : Cal P w K mg base 11 "run" (PSp K R_run) [.non, .int 400]) (cr4 : Cal P w K mg base 11 "run" (PSp K R_run) []) (cf : Cal P w K mg base 12 "fair_run" (PSp K R_fair_run) []) (ch : Cal P w K mg base 7 "answer_had" (PSp K R_answer_had) []) (cs : Cal P w K mg base 3 "is_stuck" (PSp K R_is_stuck) []) (ca : Cal P w K mg base 1 "all_through" (PSp K R_all_through) []) (crd : Cal P w K mg base 11 "fair_round" (PSp K R_fair_round) []) :
    FnOk P w K mg base CX0 13 f fd ["_law_script"] (ASl K (R_law K)) := by
  refine fn_argsX O sc_law ?_ (by decide) ?_
  · rintro xs Φ ⟨a, W, ns, rfl, _⟩
    exact ⟨rfl, fun y hy => by rw [List.mem_singleton.mp hy]; exact trivial⟩
  · rintro f cdv A outer s H E hr xs Φ ⟨a, W, ns, rfl, hW, hΦ⟩
    have hsz := sz
    have nd := sc_law.nd
    have hu := roomU hr
    have hu64 := roomU64 hr
    refine sjs_setx 1 (Φ := fun y => ∃ m : Msh, m.xs.length ≤ 63 ∧ m.turn = 0 ∧ y = .w (.ref m.a) (MW K m)) (ex_callB cm hr (ab_cons (eb_b (W := W) (ev_b 0) (hf_b 0)) ab_nil) (fun xs hx => ?_)) (fun y hy => ?_) nd
    · obtain ⟨y, ys, rfl, rfl, rfl⟩ := hx
      exact ⟨a, W, ns, rfl, hW, fun m h1 h2 => ⟨m, h1, h2, rfl⟩⟩
    obtain ⟨m, mx, mt, rfl⟩ := hy
    have hm : MOk m 2000 := ⟨by omega, by omega⟩
    refine SJs.to [.b (.ref a) W, .w (.ref m.a) (MW K m), .no, .no, .no, .no, .no, .no, .no, .no, .no, .no, .no, .no, .no, .no, .no, .no, .no] ?_
    refine sjs_cons (M := fun ρ => True) (sj_for (it_range (n := 2) T.range ed_k (by decide)) (fun k ρ => ∃ (m1 : Msh) (s2 s3 s4 s5 s6 s7 s8 s9 s10 s11 s12 s13 s14 s15 s16 s17 s18 : Sl), m1.a = m.a ∧ TugN (600 * k) m m1 ∧ ρ = [.b (.ref a) W, .w (.ref m.a) (MW K m1), s2, s3, s4, s5, s6, s7, s8, s9, s10, s11, s12, s13, s14, s15, s16, s17, s18]) ⟨m, .no, .no, .no, .no, .no, .no, .no, .no, .no, .no, .no, .no, .no, .no, .no, .no, .no, rfl, TugN.rf m, rfl⟩ (fun k d ρ hd hI => ?_) (fun ρ hI => trivial) rfl PassesOwn.never) (fun ρ _ => sjs_ret ed_bl hΦ)
    obtain ⟨hk, rfl⟩ := range_at hd
    obtain ⟨m1, s2, s3, s4, s5, s6, s7, s8, s9, s10, s11, s12, s13, s14, s15, s16, s17, s18, ha, tn, rfl⟩ := hI
    have hm1 : MOk m1 700 := (hm.dn (d := 700 + 600 * k) (by omega)).to tn
    refine ⟨[(2, dI k)], gd_name 2 nd, ?_⟩
    rw [← ha]
    refine SJs.to [.b (.ref a) W, .w (.ref m1.a) (MW K m1), .d (dI k), s3, s4, s5, s6, s7, s8, s9, s10, s11, s12, s13, s14, s15, s16, s17, s18] ?_
    refine sjs_setO (i := 1) 3 (P := fun d W' => ∃ (S : Setting) (m2 : Msh), WfS S ∧ 1 ≤ S.callers.length ∧ TugN 200 m1 m2 ∧ d = eSetting S ∧ W' = MW K m2) rfl (eo_call (PP := fun z W' => ∃ (S : Setting) (m2 : Msh), WfS S ∧ 1 ≤ S.callers.length ∧ TugN 200 m1 m2 ∧ z = .d (eSetting S) ∧ W' = MW K m2) (xs := []) cdl hr rfl (ad_cons (ev_w 1) ad_nil) (fun z hz => by cases hz) ⟨m1, rfl, hm1.dn (by decide), fun S m' h1 h2 h3 => ⟨S, m', h1, h2, h3, rfl, rfl⟩⟩ (fun z W' h => ?_)) (fun d W' h => ?_) nd
    · obtain ⟨S, m2, h1, h2, h3, rfl, rfl⟩ := h
      exact ⟨_, rfl, S, m2, h1, h2, h3, rfl, rfl⟩
    obtain ⟨S, m2, ws, hc1, t2, rfl, rfl⟩ := h
    have hm2 : MOk m2 500 := hm1.to t2
    rw [← t2.a]
    refine SJs.to [.b (.ref a) W, .w (.ref m2.a) (MW K m2), .d (dI k), .d (eSetting S), s4, s5, s6, s7, s8, s9, s10, s11, s12, s13, s14, s15, s16, s17, s18] ?_
    refine sjs_unp (i := 1) 4 5 6 (P := fun d W' => ∃ (ys : List Step) (m3 : Msh), ys.length ≤ 80 ∧ CanAll S ys (begunS S) ∧ TugN 321 m2 m3 ∧ d = .tuple (ys.map eStep) ∧ W' = MW K m3) rfl (epl_call (P1 := fun ds W' => ∃ (wild : Nat) (m3 : Msh), TugTo m2 m3 ∧ ds = [eSetting S, dI 80, dI wild] ∧ W' = MW K m3) cpl hr rfl (ev_w 1) (ao_cons rfl (eo_pure (P := fun d W' => d = eSetting S ∧ W' = MW K m2) rfl (ed_var 3) ⟨rfl, rfl⟩) fun d1 W1 h1 => ?_) (fun ds W' h1 => ?_)) (fun d W' h => ?_) rfl nd
    · obtain ⟨rfl, rfl⟩ := h1
      refine ao_cons rfl (eo_pure (P := fun d W' => d = dI 80 ∧ W' = MW K m2) rfl ed_k ⟨rfl, rfl⟩) fun d1 W1 h1 => ?_
      obtain ⟨rfl, rfl⟩ := h1
      refine ao_cons rfl (eo_pick (m := m2) ct hr rfl (hm2.dn (by decide)) (ev_lst (ds := [dI 1, dI 3, dI 6]) (ad_consd ed_k (ad_consd ed_k (ad_consd ed_k ad_nild)))) (ev_w 1) ed_k rfl (fun z => ∃ n : Nat, z = dI n) (fun z hz => ?_) (by decide) (by decide)) fun d1 W1 h1 => ?_
      · simp only [List.mem_cons, List.not_mem_nil, or_false] at hz
        rcases hz with rfl | rfl | rfl <;> exact ⟨_, rfl⟩
      · obtain ⟨m3, ⟨wild, rfl⟩, t3, rfl⟩ := h1
        exact ao_nil rfl ⟨wild, m3, t3, rfl, rfl⟩
    · obtain ⟨wild, m3, t3, rfl, rfl⟩ := h1
      have hm3 : MOk m3 400 := (hm2.dn (d := 400 + 1) (by decide)).to t3.n
      refine ⟨fun z W2 => ∃ (q : Addr) (ys : List Step) (m4 : Msh), ys.length ≤ 80 ∧ CanAll S ys (begunS S) ∧ TugN 320 m3 m4 ∧ z = .w (.ref q) (PlanW K q (.tuple (ys.map eStep))) ∧ W2 = MW K m4, ⟨S, m3, wild, by rw [t3.a]; rfl, ws, hc1, hm3, fun q ys m' h1 h2 h3 => ⟨q, ys, m', h1, h2, h3, rfl, rfl⟩⟩, fun z W2 h => ?_⟩
      obtain ⟨q, ys, m4, h1, h2, h3, rfl, rfl⟩ := h
      exact ⟨q, _, rfl, ys, m4, h1, h2, (t3.n.tr h3).up (by decide), rfl, rfl⟩
    obtain ⟨ys, m3, ly, can, t3, rfl, rfl⟩ := h
    have hm3 : MOk m3 100 := (hm2.dn (d := 100 + 321) (by decide)).to t3
    rw [← t3.a]
    refine SJs.to [.b (.ref a) W, .w (.ref m3.a) (MW K m3), .d (dI k), .d (eSetting S), .d (.tuple (ys.map eStep)), .no, .no, s7, s8, s9, s10, s11, s12, s13, s14, s15, s16, s17, s18] ?_
    have inv0 : Inv S 0 (begunS S) := Inv.begun ws (wf_begun ws)
    have inv := inv0.all ws can
    have good0 := inv0.good ws can (by omega)
    have old0 := Old.all ws inv0 can old_begun
    have et : ys.take 400 = ys := List.take_of_length_le (by omega)
    refine sjs_set 7 (y := .d (eState (runAll S (ys.take 400) (begunS S)))) (ed_ic (ed_callD cr2 (dds := [.none, dI 400]) (fun H => .cons .non (.cons (.int _) .nil)) hr (ad_consd (ed_var 3) (ad_consd (ed_var 4) ad_nild)) ⟨S, ys, .none, 400, begunS S, ws, .inl ⟨rfl, rfl⟩, by rw [et]; exact good0, by omega, rfl, rfl⟩) rfl) ?_ nd
    rw [et]
    have okk : Okk S (runAll S ys (begunS S)) := inv.okk (by omega)
    generalize runAll S ys (begunS S) = st at inv old0 okk ⊢
    refine SJs.to [.b (.ref a) W, .w (.ref m3.a) (MW K m3), .d (dI k), .d (eSetting S), .d (.tuple (ys.map eStep)), .no, .no, .d (eState st), s8, s9, s10, s11, s12, s13, s14, s15, s16, s17, s18] ?_
    obtain ⟨xs, n, sd, fair, lx, ln⟩ := fair_is ws _ st 0 (Nat.zero_le _) okk old0 (Nat.le_refl _)
    have hbud := okk.bud
    have hpat := ws.pat.2
    have hpsi := inv.psi
    have hmul : Psi st * (S.patience + 1) ≤ Psi st * 5 := Nat.mul_le_mul_left _ (by omega)
    have lx2 : xs.length ≤ 100000 := by omega
    obtain ⟨wsd, ovr⟩ := fair.fr.end_
    refine sjs_asg (ed_call cf hr (ad_consd (ed_var 3) (ad_consd (ed_var 7) ad_nild)) ⟨S, st, xs, n, sd, ws, fair.fr, lx2, rfl, rfl⟩) (gd_tup rfl (gds_cons (gd_name 8 nd) (gds_cons (gd_name 9 nd) (gds_cons (gd_name 10 nd) (gds_cons (gd_name 11 nd) gds_nil)))) rfl) ?_
    refine SJs.to [.b (.ref a) W, .w (.ref m3.a) (MW K m3), .d (dI k), .d (eSetting S), .d (.tuple (ys.map eStep)), .no, .no, .d (eState st), .d (.str (wordS S sd)), .d (dI n), .d (.tuple (xs.map eStep)), .d (eState sd), s12, s13, s14, s15, s16, s17, s18] ?_
    refine sjs_set 12 (y := .d (.tuple (evAll S (xs.take xs.length) st))) (ed_ic (ed_call cr4 hr (ad_consd (ed_var 3) (ad_consd (ed_var 10) (ad_consd (ed_var 7) (ad_consd (ed_lenM eStep T.len (ed_var 10)) ad_nild)))) ⟨S, xs, eState st, xs.length, st, ws, .inr rfl, by rw [List.take_length]; exact fair.good, lx2, rfl, rfl⟩) rfl) ?_ nd
    rw [List.take_length]
    refine SJs.to [.b (.ref a) W, .w (.ref m3.a) (MW K m3), .d (dI k), .d (eSetting S), .d (.tuple (ys.map eStep)), .no, .no, .d (eState st), .d (.str (wordS S sd)), .d (dI n), .d (.tuple (xs.map eStep)), .d (eState sd), .d (.tuple (evAll S xs st)), s13, s14, s15, s16, s17, s18] ?_
    refine sjs_set 13 (y := .d (dI (triesN S xs st))) (ed_is (ed_lenL T.len (er_new (ev_lcIf (own := [("_law_one", 17)]) (ds := evAll S xs st) fTry (it_tup (ed_var 12)).ic rfl nd (blkOk_by (N := ["_law_script", "_law_mesh_here", "_law_lap", "_law_deal_here", "_law_plan_here", "_law_own", "_law_done", "_law_first", "_law_word", "_law_many", "_law_steps_now", "_law_stand", "_law_events_now", "_law_tries", "_law_lacking", "_law_here", "_law_k", "_law_one", "_law_label"]) (sc := defScope (top 88)) (by decide +kernel)) (by rw [evAll_len]; omega) (fun d hd => ?_)))) (by rw [fTry_len]; rfl)) ?_ nd
    · obtain ⟨z, r, rfl, hz⟩ := evAll_word hd
      refine ⟨[(17, .tuple (.str z :: r))], fun _ _ _ _ _ => gd_name 17 nd, own_by, tryB (.tuple (.str z :: r)), fun _ _ _ _ _ => td_is (td_inG hu (ed_ic (d := .str z) (ed_var 17) rfl) (ed_tup (ad_consd ed_str (ad_consd ed_str ad_nild))) (lay_str hz) (lay_tup (lay_cons (lay_str (by decide +kernel)) (lay_cons (lay_str (by decide +kernel)) lay_nil)))) (any_try z r), fun h => ?_, fun h => ⟨.tuple (.str z :: r), ?_, fun _ _ _ _ _ => ed_var 17⟩⟩
      · unfold fTry; rw [h]; rfl
      · unfold fTry; rw [h]; rfl
    refine SJs.to [.b (.ref a) W, .w (.ref m3.a) (MW K m3), .d (dI k), .d (eSetting S), .d (.tuple (ys.map eStep)), .no, .no, .d (eState st), .d (.str (wordS S sd)), .d (dI n), .d (.tuple (xs.map eStep)), .d (eState sd), .d (.tuple (evAll S xs st)), .d (dI (triesN S xs st)), s14, s15, s16, s17, s18] ?_
    have htr := tries_le (S := S) (st := st) (xs := xs)
    refine sjs_skip (td_is (m := false) (td_gtn (i := n) (j := (triesN S xs st + 1) * (S.patience + 1)) (ed_var 9) (ed_muln (i := triesN S xs st + 1) (j := S.patience + 1) (ed_addn (i := triesN S xs st) (j := 1) (ed_var 13) ed_k) (ed_addn (i := S.patience) (j := 1) (ed_ic (ed_var 3) rfl) ed_k) (.inr (by omega)))) (decide_eq_false (by rw [Nat.succ_mul]; omega))) ?_
    refine sjs_setLc 14 (ds := lacks S sd) (lcjIf (own := [("_law_label", 18)]) (ds := (labels S).map eKey) (fLack sd) (ic_list (er_new (ev_ex (ex_callB cl hr (ab_cons (eb_d (ed_var 3)) ab_nil) (fun xs hx => ?_))))) ?_ (fun d hd => ?_)) ?_ rfl nd (blkOk_by (N := ["_law_script", "_law_mesh_here", "_law_lap", "_law_deal_here", "_law_plan_here", "_law_own", "_law_done", "_law_first", "_law_word", "_law_many", "_law_steps_now", "_law_stand", "_law_events_now", "_law_tries", "_law_lacking", "_law_here", "_law_k", "_law_one", "_law_label"]) (sc := defScope (top 88)) (by decide +kernel))
    · obtain ⟨y, ys, rfl, rfl, rfl⟩ := hx
      exact ⟨S, ws, rfl, rfl⟩
    · rw [List.length_map]
      have := labS_len ws S.callers.length
      have := ws.nc
      unfold labels
      omega
    · obtain ⟨k, hk, rfl⟩ := List.mem_map.mp hd
      obtain ⟨x, G, hx, hG⟩ := labels_call wsd hk
      refine ⟨[(18, eKey k)], fun _ _ _ _ _ => gd_name 18 nd, own_by, (ansHad sd k).isNone, fun _ _ _ _ _ => td_is (td_isN (ed_call ch hr (ad_consd (ed_var 3) (ad_consd (ed_var 11) (ad_consd (ed_var 18) ad_nild))) ⟨S, sd, k, x, G, ws, rfl, hx, hG, rfl⟩)) (isNo_had _), fun h => ?_, fun h => ⟨eKey k, ?_, fun _ _ _ _ _ => ed_var 18⟩⟩
      · rw [fLack_key, h]; rfl
      · rw [fLack_key, h]; rfl
    refine SJs.to [.b (.ref a) W, .w (.ref m3.a) (MW K m3), .d (dI k), .d (eSetting S), .d (.tuple (ys.map eStep)), .no, .no, .d (eState st), .d (.str (wordS S sd)), .d (dI n), .d (.tuple (xs.map eStep)), .d (eState sd), .d (.tuple (evAll S xs st)), .d (dI (triesN S xs st)), .l (lacks S sd), s15, s16, s17, s18] ?_
    refine sjs_skip (td_is (m := false) (TW.td (tw_or (k := false) (m := false) (td_is (td_neD hu64 (ed_eqS (ed_var 8) ed_str) (ed_eqL hu64 (er_var 14) (er_new (ev_lst ad_nild)) (Lay.shaped (n := 2) (lay_lst fun d hd => lacks_lay hd)) (Lay.shaped (n := 1) (lay_lst lay_nil))) (lay_bool _).shaped (lay_bool _).shaped) ?_) fun _ => tw_or1 (td_is (td_neD hu64 (ed_eqS (ed_var 8) ed_str) (ed_call cs hr (ad_consd (ed_var 3) (ad_consd (ed_var 11) ad_nild)) ⟨S, sd, ws, wsd, rfl, rfl⟩) (lay_bool _).shaped (lay_bool _).shaped) ?_))) rfl) ?_
    · rw [word_thr, eqv_nil, lacks_nil wsd, (lay_bool _).rf]; rfl
    · rw [word_stk ovr, (lay_bool _).rf]; rfl
    have layF : Lay 9 (.tuple [.str (wordS S sd), dI 0, .tuple [], eState sd]) := lay_tup (lay_cons ((lay_str word_lay).up (by decide)) (lay_cons ((lay_I _).up (by decide)) (lay_cons (lay_e0.up (by decide)) (lay_cons (lay_state wsd) lay_nil))))
    refine sjs_skipO (i := 1) (PW := fun W' => ∃ m4 : Msh, TugN 24 m3 m4 ∧ W' = MW K m4) rfl (WO.to (wo_orF (td_is (td_neD hu64 (ed_call cf hr (ad_consd (ed_var 3) (ad_consd (ed_var 11) ad_nild)) ⟨S, sd, [], 0, sd, ws, .done wsd ovr, Nat.zero_le _, rfl, rfl⟩) (ed_tup (ds := [.str (wordS S sd), dI 0, .tuple [], eState sd]) (ad_consd (ed_var 8) (ad_consd ed_k (ad_consd (ed_tup ad_nild) (ad_consd (ed_var 11) ad_nild))))) layF.shaped layF.shaped) ?_) (wo_or1 (WO.to (wo_and rfl (td_is (td_eqS (ed_var 8) ed_str) (word_stk ovr)) (fun hk => wo_and1 (to_not (to_eo (eo_call (PP := fun z W' => ∃ m4 : Msh, z = .d (.bool true) ∧ TugN 24 m3 m4 ∧ W' = MW K m4) (xs := [.d (eSetting S), .d (eState sd)]) cst hr rfl (ad_cons (ev_w 1) (ad_cons (ed_var 3) (ad_cons (ed_var 11) ad_nil))) (fun z hz => ?_) ⟨S, sd, m3, rfl, ws, hc1, fair.ok, stuck_iff.mp hk, hm3.dn (by decide), fun m' t => ⟨m', rfl, t, rfl⟩⟩ (fun z W' h => ?_))))) (fun _ => ⟨rfl, m3, (TugN.rf m3).up (by decide), rfl⟩)))))) (fun W' h => ?_)
    · show (!PyData.eqv (.tuple [.str (wordS S sd), dI 0, .tuple [], eState sd]) (.tuple [.str (wordS S sd), dI 0, .tuple [], eState sd])) = false
      rw [layF.rf]; rfl
    · simp only [List.mem_cons, List.not_mem_nil, or_false] at hz
      rcases hz with rfl | rfl <;> exact ⟨_, rfl⟩
    · obtain ⟨m4, rfl, t4, rfl⟩ := h
      exact ⟨_, rfl, true, rfl, rfl, m4, t4, rfl⟩
    obtain ⟨m4, t4, rfl⟩ := h
    refine SJs.to [.b (.ref a) W, .w (.ref m3.a) (MW K m4), .d (dI k), .d (eSetting S), .d (.tuple (ys.map eStep)), .no, .no, .d (eState st), .d (.str (wordS S sd)), .d (dI n), .d (.tuple (xs.map eStep)), .d (eState sd), .d (.tuple (evAll S xs st)), .d (dI (triesN S xs st)), .l (lacks S sd), s15, s16, s17, s18] ?_
    refine sjs_set 15 (y := .d (eState st)) (ed_var 7) ?_ nd
    refine SJs.to [.b (.ref a) W, .w (.ref m3.a) (MW K m4), .d (dI k), .d (eSetting S), .d (.tuple (ys.map eStep)), .no, .no, .d (eState st), .d (.str (wordS S sd)), .d (dI n), .d (.tuple (xs.map eStep)), .d (eState sd), .d (.tuple (evAll S xs st)), .d (dI (triesN S xs st)), .l (lacks S sd), .d (eState st), s16, s17, s18] ?_
    have hn : n ≤ 1000000 := by
      have := Nat.mul_le_mul_left (triesN S xs st) (show S.patience + 1 ≤ 5 by omega)
      omega
    refine sjs_cons (M := fun ρ => ∃ x16 : Sl, ρ = [.b (.ref a) W, .w (.ref m3.a) (MW K m4), .d (dI k), .d (eSetting S), .d (.tuple (ys.map eStep)), .no, .no, .d (eState st), .d (.str (wordS S sd)), .d (dI n), .d (.tuple (xs.map eStep)), .d (eState sd), .d (.tuple (evAll S xs st)), .d (dI (triesN S xs st)), .l (lacks S sd), .d (eState sd), x16, s17, s18]) (sj_for (it_range (n := n) T.range (ed_var 9) (by omega)) (fun i ρ => ∃ (h : State) (zs : List Step) (x16 : Sl), Fr_ S h zs (n - i) sd ∧ ρ = [.b (.ref a) W, .w (.ref m3.a) (MW K m4), .d (dI k), .d (eSetting S), .d (.tuple (ys.map eStep)), .no, .no, .d (eState st), .d (.str (wordS S sd)), .d (dI n), .d (.tuple (xs.map eStep)), .d (eState sd), .d (.tuple (evAll S xs st)), .d (dI (triesN S xs st)), .l (lacks S sd), .d (eState h), x16, s17, s18]) ⟨st, xs, s16, fair.fr, rfl⟩ (fun i d ρ hd hI => ?_) (fun ρ hI => ?_) rfl PassesOwn.never) ?_
    · obtain ⟨hi, rfl⟩ := range_at hd
      obtain ⟨h, zs, x16, hf, rfl⟩ := hI
      refine ⟨[(16, dI i)], gd_name 16 nd, ?_⟩
      refine SJs.to [.b (.ref a) W, .w (.ref m3.a) (MW K m4), .d (dI k), .d (eSetting S), .d (.tuple (ys.map eStep)), .no, .no, .d (eState st), .d (.str (wordS S sd)), .d (dI n), .d (.tuple (xs.map eStep)), .d (eState sd), .d (.tuple (evAll S xs st)), .d (dI (triesN S xs st)), .l (lacks S sd), .d (eState h), .d (dI i), s17, s18] ?_
      obtain ⟨j, hj⟩ : ∃ j, n - i = j + 1 := ⟨n - i - 1, by omega⟩
      rw [hj] at hf
      cases hf with
      | @step _ h1 _ ps qs _ wt ho rd hf =>
        refine sjs_skip (td_is (m := false) (TW.td (tw_or (k := thr S h) (m := stuck S h) (td_val (ed_call ca hr (ad_consd (ed_var 3) (ad_consd (ed_var 15) ad_nild)) ⟨S, h, rfl, wt.shp, rfl⟩)) fun _ => tw_or1 (td_val (ed_call cs hr (ad_consd (ed_var 3) (ad_consd (ed_var 15) ad_nild)) ⟨S, h, ws, wt, rfl, rfl⟩)))) ho) ?_
        refine sjs_set 15 (y := .d (eState h1)) (ed_ic (ed_call crd hr (ad_consd (ed_var 3) (ad_consd (ed_var 15) ad_nild)) ⟨S, h, ps, h1, ws, rd, rfl, rfl⟩) rfl) (sjs_nil ⟨h1, qs, .d (dI i), ?_, rfl⟩) nd
        rw [show n - (i + 1) = j by omega]
        exact hf
    · obtain ⟨h, zs, x16, hf, rfl⟩ := hI
      rw [rangeD_len, Nat.sub_self] at hf
      cases hf with
      | done _ _ => exact ⟨x16, rfl⟩
    · rintro ρ ⟨x16, rfl⟩
      refine sjs_skip (td_is (m := false) (td_neD hu64 (ed_var 15) (ed_var 11) (lay_state wsd).shaped (lay_state wsd).shaped) (by rw [(lay_state wsd).rf]; rfl)) ?_
      refine sjs_nil ⟨m4, .d (dI k), .d (eSetting S), .d (.tuple (ys.map eStep)), .no, .no, .d (eState st), .d (.str (wordS S sd)), .d (dI n), .d (.tuple (xs.map eStep)), .d (eState sd), .d (.tuple (evAll S xs st)), .d (dI (triesN S xs st)), .l (lacks S sd), .d (eState sd), x16, s17, s18, ?_, ?_, rfl⟩
      · exact t4.a
      · exact (((tn.tr t2).tr t3).tr t4).up (by omega)
end
end TC
set_option Elab.async false
set_option linter.all false
set_option maxRecDepth 100000
set_option maxHeartbeats 0
namespace TC
open PySem PySem.Spec PyProof.Rows L2
def d_is_number : He.DefD := ⟨("is_number", none), "is_number", "is_number", defArgs (top 5), defBody (top 5), defScope (top 5), [], []⟩
def d_are_numbers : He.DefD := ⟨("are_numbers", none), "are_numbers", "are_numbers", defArgs (top 6), defBody (top 6), defScope (top 6), [], []⟩
def d_divisor : He.DefD := ⟨("divisor", none), "divisor", "divisor", defArgs (top 9), defBody (top 9), defScope (top 9), [], []⟩
def d_fraction_of : He.DefD := ⟨("fraction_of", none), "fraction_of", "fraction_of", defArgs (top 10), defBody (top 10), defScope (top 10), [], []⟩
def d_plus : He.DefD := ⟨("plus", none), "plus", "plus", defArgs (top 11), defBody (top 11), defScope (top 11), [], []⟩
def d_is_less : He.DefD := ⟨("is_less", none), "is_less", "is_less", defArgs (top 12), defBody (top 12), defScope (top 12), [], []⟩
def d_minus : He.DefD := ⟨("minus", none), "minus", "minus", defArgs (top 13), defBody (top 13), defScope (top 13), [], []⟩
def d_lesser : He.DefD := ⟨("lesser", none), "lesser", "lesser", defArgs (top 14), defBody (top 14), defScope (top 14), [], []⟩
def d_is_lane : He.DefD := ⟨("is_lane", none), "is_lane", "is_lane", defArgs (top 16), defBody (top 16), defScope (top 16), [], []⟩
def d_is_going : He.DefD := ⟨("is_going", none), "is_going", "is_going", defArgs (top 17), defBody (top 17), defScope (top 17), [], []⟩
def d_is_handling : He.DefD := ⟨("is_handling", none), "is_handling", "is_handling", defArgs (top 18), defBody (top 18), defScope (top 18), [], []⟩
def d_is_tearing : He.DefD := ⟨("is_tearing", none), "is_tearing", "is_tearing", defArgs (top 19), defBody (top 19), defScope (top 19), [], []⟩
def d_is_bare : He.DefD := ⟨("is_bare", none), "is_bare", "is_bare", defArgs (top 20), defBody (top 20), defScope (top 20), [], []⟩
def d_is_step : He.DefD := ⟨("is_step", none), "is_step", "is_step", defArgs (top 22), defBody (top 22), defScope (top 22), [], []⟩
def d_groups_of_settings : He.DefD := ⟨("groups_of_settings", none), "groups_of", "groups_of", defArgs (top 23), defBody (top 23), defScope (top 23), [], []⟩
def d_group_of : He.DefD := ⟨("group_of", none), "group_of", "group_of", defArgs (top 25), defBody (top 25), defScope (top 25), [], []⟩
def d_keys_of : He.DefD := ⟨("keys_of", none), "keys_of", "keys_of", defArgs (top 26), defBody (top 26), defScope (top 26), [], []⟩
def d_is_key : He.DefD := ⟨("is_key", none), "is_key", "is_key", defArgs (top 27), defBody (top 27), defScope (top 27), [], []⟩
def d_call_of : He.DefD := ⟨("call_of", none), "call_of", "call_of", defArgs (top 28), defBody (top 28), defScope (top 28), [], []⟩
def d_begun : He.DefD := ⟨("begun", none), "begun", "begun", defArgs (top 30), defBody (top 30), defScope (top 30), [], []⟩
def d_heard_of : He.DefD := ⟨("heard_of", none), "heard_of", "heard_of", defArgs (top 31), defBody (top 31), defScope (top 31), [], []⟩
def d_all_through : He.DefD := ⟨("all_through", none), "all_through", "all_through", defArgs (top 32), defBody (top 32), defScope (top 32), [], []⟩
def d_need_key : He.DefD := ⟨("need_key", none), "need_key", "need_key", defArgs (top 33), defBody (top 33), defScope (top 33), [], []⟩
def d_answer_had : He.DefD := ⟨("answer_had", none), "answer_had", "answer_had", defArgs (top 34), defBody (top 34), defScope (top 34), [], []⟩
def d_first_due : He.DefD := ⟨("first_due", none), "first_due", "first_due", defArgs (top 36), defBody (top 36), defScope (top 36), [], []⟩
def d_further_due : He.DefD := ⟨("further_due", none), "further_due", "further_due", defArgs (top 37), defBody (top 37), defScope (top 37), [], []⟩
def d_due : He.DefD := ⟨("due", none), "due", "due", defArgs (top 38), defBody (top 38), defScope (top 38), [], []⟩
def d_with_caller : He.DefD := ⟨("with_caller", none), "with_caller", "with_caller", defArgs (top 39), defBody (top 39), defScope (top 39), [], []⟩
def d_with_calls : He.DefD := ⟨("with_calls", none), "with_calls", "with_calls", defArgs (top 40), defBody (top 40), defScope (top 40), [], []⟩
def d_sent : He.DefD := ⟨("sent", none), "sent", "sent", defArgs (top 41), defBody (top 41), defScope (top 41), [], []⟩
def d_ask_of : He.DefD := ⟨("ask_of", none), "ask_of", "ask_of", defArgs (top 42), defBody (top 42), defScope (top 42), [], []⟩
def d_goes : He.DefD := ⟨("goes", none), "goes", "goes", defArgs (top 43), defBody (top 43), defScope (top 43), [], []⟩
def d_is_new : He.DefD := ⟨("is_new", none), "is_new", "is_new", defArgs (top 44), defBody (top 44), defScope (top 44), [], []⟩
def d_heard_tell : He.DefD := ⟨("heard_tell", none), "heard_tell", "heard_tell", defArgs (top 45), defBody (top 45), defScope (top 45), [], []⟩
def d_groups_of_house : He.DefD := ⟨("groups_of_house", none), "groups_of", "groups_of", defArgs (top 47), defBody (top 47), defScope (top 47), [], []⟩
def d_closed : He.DefD := ⟨("closed", none), "closed", "closed", defArgs (top 49), defBody (top 49), defScope (top 49), [], []⟩
def d_decided : He.DefD := ⟨("decided", none), "decided", "decided", defArgs (top 50), defBody (top 50), defScope (top 50), [], []⟩
def d_forgotten : He.DefD := ⟨("forgotten", none), "forgotten", "forgotten", defArgs (top 51), defBody (top 51), defScope (top 51), [], []⟩
def d_asked : He.DefD := ⟨("asked", none), "asked", "asked", defArgs (top 52), defBody (top 52), defScope (top 52), [], []⟩
def d_fallen : He.DefD := ⟨("fallen", none), "fallen", "fallen", defArgs (top 53), defBody (top 53), defScope (top 53), [], []⟩
def d_without : He.DefD := ⟨("without", none), "without", "without", defArgs (top 55), defBody (top 55), defScope (top 55), [], []⟩
def d_do_go : He.DefD := ⟨("do_go", none), "do_go", "do_go", defArgs (top 56), defBody (top 56), defScope (top 56), [], []⟩
def d_do_get : He.DefD := ⟨("do_get", none), "do_get", "do_get", defArgs (top 57), defBody (top 57), defScope (top 57), [], []⟩
def d_do_lose : He.DefD := ⟨("do_lose", none), "do_lose", "do_lose", defArgs (top 58), defBody (top 58), defScope (top 58), [], []⟩
def d_do_double : He.DefD := ⟨("do_double", none), "do_double", "do_double", defArgs (top 59), defBody (top 59), defScope (top 59), [], []⟩
def d_do_tick : He.DefD := ⟨("do_tick", none), "do_tick", "do_tick", defArgs (top 60), defBody (top 60), defScope (top 60), [], []⟩
def d_do_tear : He.DefD := ⟨("do_tear", none), "do_tear", "do_tear", defArgs (top 61), defBody (top 61), defScope (top 61), [], []⟩
def d_do_fall : He.DefD := ⟨("do_fall", none), "do_fall", "do_fall", defArgs (top 62), defBody (top 62), defScope (top 62), [], []⟩
def d_can_be : He.DefD := ⟨("can_be", none), "can_be", "can_be", defArgs (top 64), defBody (top 64), defScope (top 64), [], []⟩
def d_stepped : He.DefD := ⟨("stepped", none), "stepped", "stepped", defArgs (top 65), defBody (top 65), defScope (top 65), [], []⟩
def d_run : He.DefD := ⟨("run", none), "run", "run", defArgs (top 67), defBody (top 67), defScope (top 67), [.non, .int 400], []⟩
def d_fair_round : He.DefD := ⟨("fair_round", none), "fair_round", "fair_round", defArgs (top 68), defBody (top 68), defScope (top 68), [], []⟩
def d_has_open : He.DefD := ⟨("has_open", none), "has_open", "has_open", defArgs (top 70), defBody (top 70), defScope (top 70), [], []⟩
def d_is_stuck : He.DefD := ⟨("is_stuck", none), "is_stuck", "is_stuck", defArgs (top 71), defBody (top 71), defScope (top 71), [], []⟩
def d_fair_run : He.DefD := ⟨("fair_run", none), "fair_run", "fair_run", defArgs (top 72), defBody (top 72), defScope (top 72), [], []⟩
def d__law_mesh : He.DefD := ⟨("_law_mesh", none), "_law_mesh", "_law_mesh", defArgs (top 74), defBody (top 74), defScope (top 74), [], []⟩
def d__law_tug : He.DefD := ⟨("_law_tug", none), "_law_tug", "_law_tug", defArgs (top 75), defBody (top 75), defScope (top 75), [], []⟩
def d__law_deal : He.DefD := ⟨("_law_deal", none), "_law_deal", "_law_deal", defArgs (top 76), defBody (top 76), defScope (top 76), [], []⟩
def d__law_labels : He.DefD := ⟨("_law_labels", none), "_law_labels", "_law_labels", defArgs (top 77), defBody (top 77), defScope (top 77), [], []⟩
def d__law_begun : He.DefD := ⟨("_law_begun", none), "_law_begun", "_law_begun", defArgs (top 78), defBody (top 78), defScope (top 78), [], []⟩
def d__law_heard : He.DefD := ⟨("_law_heard", none), "_law_heard", "_law_heard", defArgs (top 79), defBody (top 79), defScope (top 79), [], []⟩
def d__law_due : He.DefD := ⟨("_law_due", none), "_law_due", "_law_due", defArgs (top 80), defBody (top 80), defScope (top 80), [], []⟩
def d__law_go : He.DefD := ⟨("_law_go", none), "_law_go", "_law_go", defArgs (top 81), defBody (top 81), defScope (top 81), [], []⟩
def d__law_asked : He.DefD := ⟨("_law_asked", none), "_law_asked", "_law_asked", defArgs (top 82), defBody (top 82), defScope (top 82), [], []⟩
def d__law_get : He.DefD := ⟨("_law_get", none), "_law_get", "_law_get", defArgs (top 83), defBody (top 83), defScope (top 83), [], []⟩
def d__law_step : He.DefD := ⟨("_law_step", none), "_law_step", "_law_step", defArgs (top 84), defBody (top 84), defScope (top 84), [], []⟩
def d__law_act : He.DefD := ⟨("_law_act", none), "_law_act", "_law_act", defArgs (top 85), defBody (top 85), defScope (top 85), [], []⟩
def d__law_plan : He.DefD := ⟨("_law_plan", none), "_law_plan", "_law_plan", defArgs (top 86), defBody (top 86), defScope (top 86), [], []⟩
def d__law_is_still : He.DefD := ⟨("_law_is_still", none), "_law_is_still", "_law_is_still", defArgs (top 87), defBody (top 87), defScope (top 87), [], []⟩
def d_law : He.DefD := ⟨("law", none), "law", "law", defArgs (top 88), defBody (top 88), defScope (top 88), [], []⟩
def fn0 : List He.DefD := [d_is_number, d_are_numbers, d_divisor, d_fraction_of, d_plus, d_is_less, d_minus, d_lesser, d_is_lane, d_is_going, d_is_handling, d_is_tearing, d_is_bare, d_is_step, d_groups_of_settings, d_group_of, d_keys_of, d_is_key, d_call_of, d_begun, d_heard_of, d_all_through, d_need_key, d_answer_had, d_first_due, d_further_due, d_due, d_with_caller, d_with_calls, d_sent]
def fn1 : List He.DefD := [d_ask_of, d_goes, d_is_new, d_heard_tell, d_groups_of_house, d_closed, d_decided, d_forgotten, d_asked, d_fallen, d_without, d_do_go, d_do_get, d_do_lose, d_do_double, d_do_tick, d_do_tear, d_do_fall, d_can_be, d_stepped, d_run, d_fair_round, d_has_open, d_is_stuck, d_fair_run, d__law_mesh, d__law_tug, d__law_deal, d__law_labels, d__law_begun]
def fn2 : List He.DefD := [d__law_heard, d__law_due, d__law_go, d__law_asked, d__law_get, d__law_step, d__law_act, d__law_plan, d__law_is_still, d_law]
def fn : List He.DefD := fn0 ++ fn1 ++ fn2
def fa0 : List He.Fa := [.glo "is_number", .glo "are_numbers", .glo "divisor", .glo "fraction_of", .glo "plus", .glo "is_less", .glo "minus", .glo "lesser", .glo "is_lane", .glo "is_going", .glo "is_handling", .glo "is_tearing", .glo "is_bare", .glo "is_step", .glo "groups_of_settings", .glo "group_of", .glo "keys_of", .glo "is_key", .glo "call_of", .glo "begun", .glo "heard_of", .glo "all_through", .glo "need_key", .glo "answer_had", .glo "first_due", .glo "further_due", .glo "due", .glo "with_caller", .glo "with_calls", .glo "sent"]
def fa1 : List He.Fa := [.glo "ask_of", .glo "goes", .glo "is_new", .glo "heard_tell", .glo "groups_of_house", .glo "closed", .glo "decided", .glo "forgotten", .glo "asked", .glo "fallen", .glo "without", .glo "do_go", .glo "do_get", .glo "do_lose", .glo "do_double", .glo "do_tick", .glo "do_tear", .glo "do_fall", .glo "can_be", .glo "stepped", .glo "run", .glo "fair_round", .glo "has_open", .glo "is_stuck", .glo "fair_run", .glo "_law_mesh", .glo "_law_tug", .glo "_law_deal", .glo "_law_labels", .glo "_law_begun"]
def fa2 : List He.Fa := [.glo "_law_heard", .glo "_law_due", .glo "_law_go", .glo "_law_asked", .glo "_law_get", .glo "_law_step", .glo "_law_act", .glo "_law_plan", .glo "_law_is_still", .glo "law", .free "all", .free "any", .free "bool", .free "dict", .free "enumerate", .free "int", .free "isinstance", .free "len", .free "list", .free "max", .free "min", .free "range", .free "sorted", .free "str", .free "sum", .free "tuple"]
def fa : List He.Fa := fa0 ++ fa1 ++ fa2
def kv_STEPS : List (Str × He.Dv) := [("go", .glo "is_going"), ("get", .glo "is_handling"), ("lose", .glo "is_handling"), ("double", .glo "is_handling"), ("tick", .glo "is_bare"), ("tear", .glo "is_tearing"), ("fall", .glo "is_bare")]
def kv_DOES : List (Str × He.Dv) := [("go", .glo "do_go"), ("get", .glo "do_get"), ("lose", .glo "do_lose"), ("double", .glo "do_double"), ("tick", .glo "do_tick"), ("tear", .glo "do_tear"), ("fall", .glo "do_fall")]
def tabs : List He.Tab := [(fun K => He.ga K "STEPS", ["go", "get", "lose", "double", "tick", "tear", "fall"]), (fun K => He.ga K "DOES", ["go", "get", "lose", "double", "tick", "tear", "fall"])]
def ex (K : PySem.W.Frag) : Bool := He.tupB K "WHOLE" [.int 1, .int 1] && (He.valsB K (He.ga K "STEPS") kv_STEPS && He.eqO (PySem.W.nsIn K mainGlobals "STEPS") (some (some (.ref (He.ga K "STEPS")))) && He.valsB K (He.ga K "DOES") kv_DOES && He.eqO (PySem.W.nsIn K mainGlobals "DOES") (some (some (.ref (He.ga K "DOES")))))
def exW (K : PySem.W.Frag) : Bool := ex K && He.eqO (PySem.W.nsIn K mainGlobals "WHOLE") (some (some (.ref (He.ga K "WHOLE"))))
def names0 : List Str := ["LostError", "NoStep", "NoKey", "is_number", "are_numbers", "WHOLE", "divisor", "fraction_of", "plus", "is_less", "minus", "lesser", "is_lane", "is_going", "is_handling", "is_tearing", "is_bare", "STEPS", "is_step", "groups_of", "groups_of_settings", "group_of", "keys_of", "is_key", "call_of", "begun", "heard_of", "all_through", "need_key", "answer_had"]
def names1 : List Str := ["first_due", "further_due", "due", "with_caller", "with_calls", "sent", "ask_of", "goes", "is_new", "heard_tell", "groups_of_house", "closed", "decided", "forgotten", "asked", "fallen", "without", "do_go", "do_get", "do_lose", "do_double", "do_tick", "do_tear", "do_fall", "DOES", "can_be", "stepped", "run", "fair_round", "has_open"]
def names2 : List Str := ["is_stuck", "fair_run", "_law_mesh", "_law_tug", "_law_deal", "_law_labels", "_law_begun", "_law_heard", "_law_due", "_law_go", "_law_asked", "_law_get", "_law_step", "_law_act", "_law_plan", "_law_is_still"]
def names : List Str := names0 ++ names1 ++ names2
abbrev R : PySem.W.OpenRow := PySem.W.OpenLaw.row PySem.Challenge.rw_twicecalls_k70_whole_fair_ends
abbrev hk : PySem.W.Hook := He.hookX 3 fa fn tabs [] exW
def ob (s : PySem.W.SharedT) : He.AlX := He.obsX 3 fa fn tabs [] exW (HandSHeadRun.getT s)
theorem ob_eq (s : PySem.W.SharedT) : ob s = hk.obs s.abs := He.obsX_eq (HandSHeadRun.getT_eq s)
abbrev RunP (w : World) : Prop := HandSHeadRun.RunEq R (PySem.W.view R.prog [88]) hk ob 4000 names w
theorem run_f (w : World) : RunP (w.withFollow "special-get-raises" false) := by
  intro os
  kernel_rfl
theorem run_t (w : World) : RunP (w.withFollow "special-get-raises" true) := by
  intro os
  kernel_rfl
theorem run (w : World) : RunP w := PySem.W.byRow2 "special-get-raises" (P := RunP) run_f run_t w
end TC
set_option Elab.async false
set_option linter.all false
set_option maxRecDepth 100000
set_option maxHeartbeats 8000000
/-! The head's facts, the law's function. -/
namespace TC
open PySem PySem.Spec PyProof.Rows L2
section
variable {P : Program} {w : World} {K : PySem.W.Frag} {mg : Str → Option Value} {base : Heap} {h : Heap}
theorem tbl_of {x : Str} {kvd : List (Str × He.Dv)} {kvs : List (Str × Str)} (hm : mg x = some (.ref (He.ga K x))) (D : ∃ es n, KDict K w (He.ga K x) es n) (hv : He.valsB K (He.ga K x) kvd = true) (hk : ∀ p ∈ kvs, (p.1, He.Dv.glo p.2) ∈ kvd ∧ mg p.2 = some (.ref (He.ga K p.2))) : Tbl K w mg x kvs := by
  obtain ⟨es, n, D⟩ := D
  refine ⟨He.ga K x, es, n, hm, D, fun p hp => ?_⟩
  obtain ⟨h1, h2⟩ := hk p hp
  obtain ⟨u, u1, u2⟩ := He.valsB_ok hv h1
  exact ⟨_, h2, by rw [u1, show u = .ref (He.ga K p.2) from u2]⟩
/-- the way into a script that lies in the heap | in the module -/
def HpW (a : Addr) (vs : List V) : Wld where
  F := fun b => b = a
  ok := fun H => Rd H a (.lst vs)
  dom := fun H b h f => by
    subst f
    rcases h with h | ⟨o, h⟩
    · exact ⟨_, h⟩
    · exact ⟨_, h⟩
  stay := fun H H' h k t => by
    have e := k a rfl
    rcases h with h | ⟨o, h⟩
    · exact .inl (e.trans h)
    · exact .inr ⟨o, e.trans h⟩
def KpW (K : PySem.W.Frag) (a : Addr) (vs : List V) : Wld where
  F := fun _ => False
  ok := fun _ => ∀ H, SqL K H a vs
  dom := fun H b _ f => f.elim
  stay := fun _ _ h _ _ => h
theorem law_sp {H : Hp} {a : Addr} {ns : List Int} (hS : SqL K H a (ns.map V.int)) : ASl K (R_law K) [.ref a] H (fun v _ => v = .bl true) fun _ _ _ => False := by
  have fin : ∀ (W : Wld), W.ok H → (∀ H, W.ok H → SqL K H a (ns.map V.int)) → ASl K (R_law K) [.ref a] H (fun v _ => v = .bl true) fun _ _ _ => False := fun W h1 h2 =>
    ⟨[.b (.ref a) W], (· = .d (.bool true)), .cons ⟨rfl, h1⟩ .nil, ⟨a, W, ns, rfl, h2, rfl⟩, fun v H' x e o hx => by
      subst hx
      exact (show DT K H' v (.bool true) from o).of_bool⟩
  rcases hS with h | h
  · exact fin (HpW a (ns.map V.int)) h fun H h => .inl h
  · exact fin (KpW K a (ns.map V.int)) (fun H => .inr h) fun H h => h H
theorem facts {f : Addr} (KX : K.In h) (G : h.Ns mainGlobals mg) (hfa : mg ("law" : Str) = some (.ref f)) (c : He.SaysX fa fn tabs [] exW w h K) :
    ∃ fd : FuncData, (∀ (s : Shared) (v : Value), BindsTo s fd ⟨[v], []⟩ [("_law_script", v)]) ∧ ∀ base : Heap, K.In base → base.Ns mainGlobals mg → FnOk P w K mg base CX0 13 f fd ["_law_script"] (ASl K (R_law K)) := by
  have cd := c.t.d
  obtain ⟨e1, e2⟩ := He.ba (show (ex K && He.eqO (PySem.W.nsIn K mainGlobals "WHOLE") (some (some (.ref (He.ga K "WHOLE"))))) = true from c.more)
  obtain ⟨e3, e4⟩ := He.ba e1
  obtain ⟨e5, e6⟩ := He.ba e4
  obtain ⟨e7, e8⟩ := He.ba e5
  obtain ⟨e9, e10⟩ := He.ba e7
  have m0 : mg "is_number" = some (.ref (He.ga K "is_number")) := He.glo_ok KX G (cd.fact 0 (f := .glo "is_number") rfl)
  have o0 : Own K mg "is_number" (defD "is_number" (top 5)) [] := ⟨by
    obtain ⟨fd, F⟩ := cd.def_ 0 (d := d_is_number) rfl
    exact ⟨_, fd, F, m0⟩⟩
  have m1 : mg "are_numbers" = some (.ref (He.ga K "are_numbers")) := He.glo_ok KX G (cd.fact 1 (f := .glo "are_numbers") rfl)
  have o1 : Own K mg "are_numbers" (defD "are_numbers" (top 6)) [] := ⟨by
    obtain ⟨fd, F⟩ := cd.def_ 1 (d := d_are_numbers) rfl
    exact ⟨_, fd, F, m1⟩⟩
  have m2 : mg "divisor" = some (.ref (He.ga K "divisor")) := He.glo_ok KX G (cd.fact 2 (f := .glo "divisor") rfl)
  have o2 : Own K mg "divisor" (defD "divisor" (top 9)) [] := ⟨by
    obtain ⟨fd, F⟩ := cd.def_ 2 (d := d_divisor) rfl
    exact ⟨_, fd, F, m2⟩⟩
  have m3 : mg "fraction_of" = some (.ref (He.ga K "fraction_of")) := He.glo_ok KX G (cd.fact 3 (f := .glo "fraction_of") rfl)
  have o3 : Own K mg "fraction_of" (defD "fraction_of" (top 10)) [] := ⟨by
    obtain ⟨fd, F⟩ := cd.def_ 3 (d := d_fraction_of) rfl
    exact ⟨_, fd, F, m3⟩⟩
  have m4 : mg "plus" = some (.ref (He.ga K "plus")) := He.glo_ok KX G (cd.fact 4 (f := .glo "plus") rfl)
  have o4 : Own K mg "plus" (defD "plus" (top 11)) [] := ⟨by
    obtain ⟨fd, F⟩ := cd.def_ 4 (d := d_plus) rfl
    exact ⟨_, fd, F, m4⟩⟩
  have m5 : mg "is_less" = some (.ref (He.ga K "is_less")) := He.glo_ok KX G (cd.fact 5 (f := .glo "is_less") rfl)
  have o5 : Own K mg "is_less" (defD "is_less" (top 12)) [] := ⟨by
    obtain ⟨fd, F⟩ := cd.def_ 5 (d := d_is_less) rfl
    exact ⟨_, fd, F, m5⟩⟩
  have m6 : mg "minus" = some (.ref (He.ga K "minus")) := He.glo_ok KX G (cd.fact 6 (f := .glo "minus") rfl)
  have o6 : Own K mg "minus" (defD "minus" (top 13)) [] := ⟨by
    obtain ⟨fd, F⟩ := cd.def_ 6 (d := d_minus) rfl
    exact ⟨_, fd, F, m6⟩⟩
  have m7 : mg "lesser" = some (.ref (He.ga K "lesser")) := He.glo_ok KX G (cd.fact 7 (f := .glo "lesser") rfl)
  have o7 : Own K mg "lesser" (defD "lesser" (top 14)) [] := ⟨by
    obtain ⟨fd, F⟩ := cd.def_ 7 (d := d_lesser) rfl
    exact ⟨_, fd, F, m7⟩⟩
  have m8 : mg "is_lane" = some (.ref (He.ga K "is_lane")) := He.glo_ok KX G (cd.fact 8 (f := .glo "is_lane") rfl)
  have o8 : Own K mg "is_lane" (defD "is_lane" (top 16)) [] := ⟨by
    obtain ⟨fd, F⟩ := cd.def_ 8 (d := d_is_lane) rfl
    exact ⟨_, fd, F, m8⟩⟩
  have m9 : mg "is_going" = some (.ref (He.ga K "is_going")) := He.glo_ok KX G (cd.fact 9 (f := .glo "is_going") rfl)
  have o9 : Own K mg "is_going" (defD "is_going" (top 17)) [] := ⟨by
    obtain ⟨fd, F⟩ := cd.def_ 9 (d := d_is_going) rfl
    exact ⟨_, fd, F, m9⟩⟩
  have m10 : mg "is_handling" = some (.ref (He.ga K "is_handling")) := He.glo_ok KX G (cd.fact 10 (f := .glo "is_handling") rfl)
  have o10 : Own K mg "is_handling" (defD "is_handling" (top 18)) [] := ⟨by
    obtain ⟨fd, F⟩ := cd.def_ 10 (d := d_is_handling) rfl
    exact ⟨_, fd, F, m10⟩⟩
  have m11 : mg "is_tearing" = some (.ref (He.ga K "is_tearing")) := He.glo_ok KX G (cd.fact 11 (f := .glo "is_tearing") rfl)
  have o11 : Own K mg "is_tearing" (defD "is_tearing" (top 19)) [] := ⟨by
    obtain ⟨fd, F⟩ := cd.def_ 11 (d := d_is_tearing) rfl
    exact ⟨_, fd, F, m11⟩⟩
  have m12 : mg "is_bare" = some (.ref (He.ga K "is_bare")) := He.glo_ok KX G (cd.fact 12 (f := .glo "is_bare") rfl)
  have o12 : Own K mg "is_bare" (defD "is_bare" (top 20)) [] := ⟨by
    obtain ⟨fd, F⟩ := cd.def_ 12 (d := d_is_bare) rfl
    exact ⟨_, fd, F, m12⟩⟩
  have m13 : mg "is_step" = some (.ref (He.ga K "is_step")) := He.glo_ok KX G (cd.fact 13 (f := .glo "is_step") rfl)
  have o13 : Own K mg "is_step" (defD "is_step" (top 22)) [] := ⟨by
    obtain ⟨fd, F⟩ := cd.def_ 13 (d := d_is_step) rfl
    exact ⟨_, fd, F, m13⟩⟩
  have m14 : mg "groups_of_settings" = some (.ref (He.ga K "groups_of_settings")) := He.glo_ok KX G (cd.fact 14 (f := .glo "groups_of_settings") rfl)
  have o14 : Own K mg "groups_of_settings" (defD "groups_of" (top 23)) [] := ⟨by
    obtain ⟨fd, F⟩ := cd.def_ 14 (d := d_groups_of_settings) rfl
    exact ⟨_, fd, F, m14⟩⟩
  have m15 : mg "group_of" = some (.ref (He.ga K "group_of")) := He.glo_ok KX G (cd.fact 15 (f := .glo "group_of") rfl)
  have o15 : Own K mg "group_of" (defD "group_of" (top 25)) [] := ⟨by
    obtain ⟨fd, F⟩ := cd.def_ 15 (d := d_group_of) rfl
    exact ⟨_, fd, F, m15⟩⟩
  have m16 : mg "keys_of" = some (.ref (He.ga K "keys_of")) := He.glo_ok KX G (cd.fact 16 (f := .glo "keys_of") rfl)
  have o16 : Own K mg "keys_of" (defD "keys_of" (top 26)) [] := ⟨by
    obtain ⟨fd, F⟩ := cd.def_ 16 (d := d_keys_of) rfl
    exact ⟨_, fd, F, m16⟩⟩
  have m17 : mg "is_key" = some (.ref (He.ga K "is_key")) := He.glo_ok KX G (cd.fact 17 (f := .glo "is_key") rfl)
  have o17 : Own K mg "is_key" (defD "is_key" (top 27)) [] := ⟨by
    obtain ⟨fd, F⟩ := cd.def_ 17 (d := d_is_key) rfl
    exact ⟨_, fd, F, m17⟩⟩
  have m18 : mg "call_of" = some (.ref (He.ga K "call_of")) := He.glo_ok KX G (cd.fact 18 (f := .glo "call_of") rfl)
  have o18 : Own K mg "call_of" (defD "call_of" (top 28)) [] := ⟨by
    obtain ⟨fd, F⟩ := cd.def_ 18 (d := d_call_of) rfl
    exact ⟨_, fd, F, m18⟩⟩
  have m19 : mg "begun" = some (.ref (He.ga K "begun")) := He.glo_ok KX G (cd.fact 19 (f := .glo "begun") rfl)
  have o19 : Own K mg "begun" (defD "begun" (top 30)) [] := ⟨by
    obtain ⟨fd, F⟩ := cd.def_ 19 (d := d_begun) rfl
    exact ⟨_, fd, F, m19⟩⟩
  have m20 : mg "heard_of" = some (.ref (He.ga K "heard_of")) := He.glo_ok KX G (cd.fact 20 (f := .glo "heard_of") rfl)
  have o20 : Own K mg "heard_of" (defD "heard_of" (top 31)) [] := ⟨by
    obtain ⟨fd, F⟩ := cd.def_ 20 (d := d_heard_of) rfl
    exact ⟨_, fd, F, m20⟩⟩
  have m21 : mg "all_through" = some (.ref (He.ga K "all_through")) := He.glo_ok KX G (cd.fact 21 (f := .glo "all_through") rfl)
  have o21 : Own K mg "all_through" (defD "all_through" (top 32)) [] := ⟨by
    obtain ⟨fd, F⟩ := cd.def_ 21 (d := d_all_through) rfl
    exact ⟨_, fd, F, m21⟩⟩
  have m22 : mg "need_key" = some (.ref (He.ga K "need_key")) := He.glo_ok KX G (cd.fact 22 (f := .glo "need_key") rfl)
  have o22 : Own K mg "need_key" (defD "need_key" (top 33)) [] := ⟨by
    obtain ⟨fd, F⟩ := cd.def_ 22 (d := d_need_key) rfl
    exact ⟨_, fd, F, m22⟩⟩
  have m23 : mg "answer_had" = some (.ref (He.ga K "answer_had")) := He.glo_ok KX G (cd.fact 23 (f := .glo "answer_had") rfl)
  have o23 : Own K mg "answer_had" (defD "answer_had" (top 34)) [] := ⟨by
    obtain ⟨fd, F⟩ := cd.def_ 23 (d := d_answer_had) rfl
    exact ⟨_, fd, F, m23⟩⟩
  have m24 : mg "first_due" = some (.ref (He.ga K "first_due")) := He.glo_ok KX G (cd.fact 24 (f := .glo "first_due") rfl)
  have o24 : Own K mg "first_due" (defD "first_due" (top 36)) [] := ⟨by
    obtain ⟨fd, F⟩ := cd.def_ 24 (d := d_first_due) rfl
    exact ⟨_, fd, F, m24⟩⟩
  have m25 : mg "further_due" = some (.ref (He.ga K "further_due")) := He.glo_ok KX G (cd.fact 25 (f := .glo "further_due") rfl)
  have o25 : Own K mg "further_due" (defD "further_due" (top 37)) [] := ⟨by
    obtain ⟨fd, F⟩ := cd.def_ 25 (d := d_further_due) rfl
    exact ⟨_, fd, F, m25⟩⟩
  have m26 : mg "due" = some (.ref (He.ga K "due")) := He.glo_ok KX G (cd.fact 26 (f := .glo "due") rfl)
  have o26 : Own K mg "due" (defD "due" (top 38)) [] := ⟨by
    obtain ⟨fd, F⟩ := cd.def_ 26 (d := d_due) rfl
    exact ⟨_, fd, F, m26⟩⟩
  have m27 : mg "with_caller" = some (.ref (He.ga K "with_caller")) := He.glo_ok KX G (cd.fact 27 (f := .glo "with_caller") rfl)
  have o27 : Own K mg "with_caller" (defD "with_caller" (top 39)) [] := ⟨by
    obtain ⟨fd, F⟩ := cd.def_ 27 (d := d_with_caller) rfl
    exact ⟨_, fd, F, m27⟩⟩
  have m28 : mg "with_calls" = some (.ref (He.ga K "with_calls")) := He.glo_ok KX G (cd.fact 28 (f := .glo "with_calls") rfl)
  have o28 : Own K mg "with_calls" (defD "with_calls" (top 40)) [] := ⟨by
    obtain ⟨fd, F⟩ := cd.def_ 28 (d := d_with_calls) rfl
    exact ⟨_, fd, F, m28⟩⟩
  have m29 : mg "sent" = some (.ref (He.ga K "sent")) := He.glo_ok KX G (cd.fact 29 (f := .glo "sent") rfl)
  have o29 : Own K mg "sent" (defD "sent" (top 41)) [] := ⟨by
    obtain ⟨fd, F⟩ := cd.def_ 29 (d := d_sent) rfl
    exact ⟨_, fd, F, m29⟩⟩
  have m30 : mg "ask_of" = some (.ref (He.ga K "ask_of")) := He.glo_ok KX G (cd.fact 30 (f := .glo "ask_of") rfl)
  have o30 : Own K mg "ask_of" (defD "ask_of" (top 42)) [] := ⟨by
    obtain ⟨fd, F⟩ := cd.def_ 30 (d := d_ask_of) rfl
    exact ⟨_, fd, F, m30⟩⟩
  have m31 : mg "goes" = some (.ref (He.ga K "goes")) := He.glo_ok KX G (cd.fact 31 (f := .glo "goes") rfl)
  have o31 : Own K mg "goes" (defD "goes" (top 43)) [] := ⟨by
    obtain ⟨fd, F⟩ := cd.def_ 31 (d := d_goes) rfl
    exact ⟨_, fd, F, m31⟩⟩
  have m32 : mg "is_new" = some (.ref (He.ga K "is_new")) := He.glo_ok KX G (cd.fact 32 (f := .glo "is_new") rfl)
  have o32 : Own K mg "is_new" (defD "is_new" (top 44)) [] := ⟨by
    obtain ⟨fd, F⟩ := cd.def_ 32 (d := d_is_new) rfl
    exact ⟨_, fd, F, m32⟩⟩
  have m33 : mg "heard_tell" = some (.ref (He.ga K "heard_tell")) := He.glo_ok KX G (cd.fact 33 (f := .glo "heard_tell") rfl)
  have o33 : Own K mg "heard_tell" (defD "heard_tell" (top 45)) [] := ⟨by
    obtain ⟨fd, F⟩ := cd.def_ 33 (d := d_heard_tell) rfl
    exact ⟨_, fd, F, m33⟩⟩
  have m34 : mg "groups_of_house" = some (.ref (He.ga K "groups_of_house")) := He.glo_ok KX G (cd.fact 34 (f := .glo "groups_of_house") rfl)
  have o34 : Own K mg "groups_of_house" (defD "groups_of" (top 47)) [] := ⟨by
    obtain ⟨fd, F⟩ := cd.def_ 34 (d := d_groups_of_house) rfl
    exact ⟨_, fd, F, m34⟩⟩
  have m35 : mg "closed" = some (.ref (He.ga K "closed")) := He.glo_ok KX G (cd.fact 35 (f := .glo "closed") rfl)
  have o35 : Own K mg "closed" (defD "closed" (top 49)) [] := ⟨by
    obtain ⟨fd, F⟩ := cd.def_ 35 (d := d_closed) rfl
    exact ⟨_, fd, F, m35⟩⟩
  have m36 : mg "decided" = some (.ref (He.ga K "decided")) := He.glo_ok KX G (cd.fact 36 (f := .glo "decided") rfl)
  have o36 : Own K mg "decided" (defD "decided" (top 50)) [] := ⟨by
    obtain ⟨fd, F⟩ := cd.def_ 36 (d := d_decided) rfl
    exact ⟨_, fd, F, m36⟩⟩
  have m37 : mg "forgotten" = some (.ref (He.ga K "forgotten")) := He.glo_ok KX G (cd.fact 37 (f := .glo "forgotten") rfl)
  have o37 : Own K mg "forgotten" (defD "forgotten" (top 51)) [] := ⟨by
    obtain ⟨fd, F⟩ := cd.def_ 37 (d := d_forgotten) rfl
    exact ⟨_, fd, F, m37⟩⟩
  have m38 : mg "asked" = some (.ref (He.ga K "asked")) := He.glo_ok KX G (cd.fact 38 (f := .glo "asked") rfl)
  have o38 : Own K mg "asked" (defD "asked" (top 52)) [] := ⟨by
    obtain ⟨fd, F⟩ := cd.def_ 38 (d := d_asked) rfl
    exact ⟨_, fd, F, m38⟩⟩
  have m39 : mg "fallen" = some (.ref (He.ga K "fallen")) := He.glo_ok KX G (cd.fact 39 (f := .glo "fallen") rfl)
  have o39 : Own K mg "fallen" (defD "fallen" (top 53)) [] := ⟨by
    obtain ⟨fd, F⟩ := cd.def_ 39 (d := d_fallen) rfl
    exact ⟨_, fd, F, m39⟩⟩
  have m40 : mg "without" = some (.ref (He.ga K "without")) := He.glo_ok KX G (cd.fact 40 (f := .glo "without") rfl)
  have o40 : Own K mg "without" (defD "without" (top 55)) [] := ⟨by
    obtain ⟨fd, F⟩ := cd.def_ 40 (d := d_without) rfl
    exact ⟨_, fd, F, m40⟩⟩
  have m41 : mg "do_go" = some (.ref (He.ga K "do_go")) := He.glo_ok KX G (cd.fact 41 (f := .glo "do_go") rfl)
  have o41 : Own K mg "do_go" (defD "do_go" (top 56)) [] := ⟨by
    obtain ⟨fd, F⟩ := cd.def_ 41 (d := d_do_go) rfl
    exact ⟨_, fd, F, m41⟩⟩
  have m42 : mg "do_get" = some (.ref (He.ga K "do_get")) := He.glo_ok KX G (cd.fact 42 (f := .glo "do_get") rfl)
  have o42 : Own K mg "do_get" (defD "do_get" (top 57)) [] := ⟨by
    obtain ⟨fd, F⟩ := cd.def_ 42 (d := d_do_get) rfl
    exact ⟨_, fd, F, m42⟩⟩
  have m43 : mg "do_lose" = some (.ref (He.ga K "do_lose")) := He.glo_ok KX G (cd.fact 43 (f := .glo "do_lose") rfl)
  have o43 : Own K mg "do_lose" (defD "do_lose" (top 58)) [] := ⟨by
    obtain ⟨fd, F⟩ := cd.def_ 43 (d := d_do_lose) rfl
    exact ⟨_, fd, F, m43⟩⟩
  have m44 : mg "do_double" = some (.ref (He.ga K "do_double")) := He.glo_ok KX G (cd.fact 44 (f := .glo "do_double") rfl)
  have o44 : Own K mg "do_double" (defD "do_double" (top 59)) [] := ⟨by
    obtain ⟨fd, F⟩ := cd.def_ 44 (d := d_do_double) rfl
    exact ⟨_, fd, F, m44⟩⟩
  have m45 : mg "do_tick" = some (.ref (He.ga K "do_tick")) := He.glo_ok KX G (cd.fact 45 (f := .glo "do_tick") rfl)
  have o45 : Own K mg "do_tick" (defD "do_tick" (top 60)) [] := ⟨by
    obtain ⟨fd, F⟩ := cd.def_ 45 (d := d_do_tick) rfl
    exact ⟨_, fd, F, m45⟩⟩
  have m46 : mg "do_tear" = some (.ref (He.ga K "do_tear")) := He.glo_ok KX G (cd.fact 46 (f := .glo "do_tear") rfl)
  have o46 : Own K mg "do_tear" (defD "do_tear" (top 61)) [] := ⟨by
    obtain ⟨fd, F⟩ := cd.def_ 46 (d := d_do_tear) rfl
    exact ⟨_, fd, F, m46⟩⟩
  have m47 : mg "do_fall" = some (.ref (He.ga K "do_fall")) := He.glo_ok KX G (cd.fact 47 (f := .glo "do_fall") rfl)
  have o47 : Own K mg "do_fall" (defD "do_fall" (top 62)) [] := ⟨by
    obtain ⟨fd, F⟩ := cd.def_ 47 (d := d_do_fall) rfl
    exact ⟨_, fd, F, m47⟩⟩
  have m48 : mg "can_be" = some (.ref (He.ga K "can_be")) := He.glo_ok KX G (cd.fact 48 (f := .glo "can_be") rfl)
  have o48 : Own K mg "can_be" (defD "can_be" (top 64)) [] := ⟨by
    obtain ⟨fd, F⟩ := cd.def_ 48 (d := d_can_be) rfl
    exact ⟨_, fd, F, m48⟩⟩
  have m49 : mg "stepped" = some (.ref (He.ga K "stepped")) := He.glo_ok KX G (cd.fact 49 (f := .glo "stepped") rfl)
  have o49 : Own K mg "stepped" (defD "stepped" (top 65)) [] := ⟨by
    obtain ⟨fd, F⟩ := cd.def_ 49 (d := d_stepped) rfl
    exact ⟨_, fd, F, m49⟩⟩
  have m50 : mg "run" = some (.ref (He.ga K "run")) := He.glo_ok KX G (cd.fact 50 (f := .glo "run") rfl)
  have o50 : Own K mg "run" (defD "run" (top 67)) [.non, .int 400] := ⟨by
    obtain ⟨fd, F⟩ := cd.def_ 50 (d := d_run) rfl
    exact ⟨_, fd, F, m50⟩⟩
  have m51 : mg "fair_round" = some (.ref (He.ga K "fair_round")) := He.glo_ok KX G (cd.fact 51 (f := .glo "fair_round") rfl)
  have o51 : Own K mg "fair_round" (defD "fair_round" (top 68)) [] := ⟨by
    obtain ⟨fd, F⟩ := cd.def_ 51 (d := d_fair_round) rfl
    exact ⟨_, fd, F, m51⟩⟩
  have m52 : mg "has_open" = some (.ref (He.ga K "has_open")) := He.glo_ok KX G (cd.fact 52 (f := .glo "has_open") rfl)
  have o52 : Own K mg "has_open" (defD "has_open" (top 70)) [] := ⟨by
    obtain ⟨fd, F⟩ := cd.def_ 52 (d := d_has_open) rfl
    exact ⟨_, fd, F, m52⟩⟩
  have m53 : mg "is_stuck" = some (.ref (He.ga K "is_stuck")) := He.glo_ok KX G (cd.fact 53 (f := .glo "is_stuck") rfl)
  have o53 : Own K mg "is_stuck" (defD "is_stuck" (top 71)) [] := ⟨by
    obtain ⟨fd, F⟩ := cd.def_ 53 (d := d_is_stuck) rfl
    exact ⟨_, fd, F, m53⟩⟩
  have m54 : mg "fair_run" = some (.ref (He.ga K "fair_run")) := He.glo_ok KX G (cd.fact 54 (f := .glo "fair_run") rfl)
  have o54 : Own K mg "fair_run" (defD "fair_run" (top 72)) [] := ⟨by
    obtain ⟨fd, F⟩ := cd.def_ 54 (d := d_fair_run) rfl
    exact ⟨_, fd, F, m54⟩⟩
  have m55 : mg "_law_mesh" = some (.ref (He.ga K "_law_mesh")) := He.glo_ok KX G (cd.fact 55 (f := .glo "_law_mesh") rfl)
  have o55 : Own K mg "_law_mesh" (defD "_law_mesh" (top 74)) [] := ⟨by
    obtain ⟨fd, F⟩ := cd.def_ 55 (d := d__law_mesh) rfl
    exact ⟨_, fd, F, m55⟩⟩
  have m56 : mg "_law_tug" = some (.ref (He.ga K "_law_tug")) := He.glo_ok KX G (cd.fact 56 (f := .glo "_law_tug") rfl)
  have o56 : Own K mg "_law_tug" (defD "_law_tug" (top 75)) [] := ⟨by
    obtain ⟨fd, F⟩ := cd.def_ 56 (d := d__law_tug) rfl
    exact ⟨_, fd, F, m56⟩⟩
  have m57 : mg "_law_deal" = some (.ref (He.ga K "_law_deal")) := He.glo_ok KX G (cd.fact 57 (f := .glo "_law_deal") rfl)
  have o57 : Own K mg "_law_deal" (defD "_law_deal" (top 76)) [] := ⟨by
    obtain ⟨fd, F⟩ := cd.def_ 57 (d := d__law_deal) rfl
    exact ⟨_, fd, F, m57⟩⟩
  have m58 : mg "_law_labels" = some (.ref (He.ga K "_law_labels")) := He.glo_ok KX G (cd.fact 58 (f := .glo "_law_labels") rfl)
  have o58 : Own K mg "_law_labels" (defD "_law_labels" (top 77)) [] := ⟨by
    obtain ⟨fd, F⟩ := cd.def_ 58 (d := d__law_labels) rfl
    exact ⟨_, fd, F, m58⟩⟩
  have m59 : mg "_law_begun" = some (.ref (He.ga K "_law_begun")) := He.glo_ok KX G (cd.fact 59 (f := .glo "_law_begun") rfl)
  have o59 : Own K mg "_law_begun" (defD "_law_begun" (top 78)) [] := ⟨by
    obtain ⟨fd, F⟩ := cd.def_ 59 (d := d__law_begun) rfl
    exact ⟨_, fd, F, m59⟩⟩
  have m60 : mg "_law_heard" = some (.ref (He.ga K "_law_heard")) := He.glo_ok KX G (cd.fact 60 (f := .glo "_law_heard") rfl)
  have o60 : Own K mg "_law_heard" (defD "_law_heard" (top 79)) [] := ⟨by
    obtain ⟨fd, F⟩ := cd.def_ 60 (d := d__law_heard) rfl
    exact ⟨_, fd, F, m60⟩⟩
  have m61 : mg "_law_due" = some (.ref (He.ga K "_law_due")) := He.glo_ok KX G (cd.fact 61 (f := .glo "_law_due") rfl)
  have o61 : Own K mg "_law_due" (defD "_law_due" (top 80)) [] := ⟨by
    obtain ⟨fd, F⟩ := cd.def_ 61 (d := d__law_due) rfl
    exact ⟨_, fd, F, m61⟩⟩
  have m62 : mg "_law_go" = some (.ref (He.ga K "_law_go")) := He.glo_ok KX G (cd.fact 62 (f := .glo "_law_go") rfl)
  have o62 : Own K mg "_law_go" (defD "_law_go" (top 81)) [] := ⟨by
    obtain ⟨fd, F⟩ := cd.def_ 62 (d := d__law_go) rfl
    exact ⟨_, fd, F, m62⟩⟩
  have m63 : mg "_law_asked" = some (.ref (He.ga K "_law_asked")) := He.glo_ok KX G (cd.fact 63 (f := .glo "_law_asked") rfl)
  have o63 : Own K mg "_law_asked" (defD "_law_asked" (top 82)) [] := ⟨by
    obtain ⟨fd, F⟩ := cd.def_ 63 (d := d__law_asked) rfl
    exact ⟨_, fd, F, m63⟩⟩
  have m64 : mg "_law_get" = some (.ref (He.ga K "_law_get")) := He.glo_ok KX G (cd.fact 64 (f := .glo "_law_get") rfl)
  have o64 : Own K mg "_law_get" (defD "_law_get" (top 83)) [] := ⟨by
    obtain ⟨fd, F⟩ := cd.def_ 64 (d := d__law_get) rfl
    exact ⟨_, fd, F, m64⟩⟩
  have m65 : mg "_law_step" = some (.ref (He.ga K "_law_step")) := He.glo_ok KX G (cd.fact 65 (f := .glo "_law_step") rfl)
  have o65 : Own K mg "_law_step" (defD "_law_step" (top 84)) [] := ⟨by
    obtain ⟨fd, F⟩ := cd.def_ 65 (d := d__law_step) rfl
    exact ⟨_, fd, F, m65⟩⟩
  have m66 : mg "_law_act" = some (.ref (He.ga K "_law_act")) := He.glo_ok KX G (cd.fact 66 (f := .glo "_law_act") rfl)
  have o66 : Own K mg "_law_act" (defD "_law_act" (top 85)) [] := ⟨by
    obtain ⟨fd, F⟩ := cd.def_ 66 (d := d__law_act) rfl
    exact ⟨_, fd, F, m66⟩⟩
  have m67 : mg "_law_plan" = some (.ref (He.ga K "_law_plan")) := He.glo_ok KX G (cd.fact 67 (f := .glo "_law_plan") rfl)
  have o67 : Own K mg "_law_plan" (defD "_law_plan" (top 86)) [] := ⟨by
    obtain ⟨fd, F⟩ := cd.def_ 67 (d := d__law_plan) rfl
    exact ⟨_, fd, F, m67⟩⟩
  have m68 : mg "_law_is_still" = some (.ref (He.ga K "_law_is_still")) := He.glo_ok KX G (cd.fact 68 (f := .glo "_law_is_still") rfl)
  have o68 : Own K mg "_law_is_still" (defD "_law_is_still" (top 87)) [] := ⟨by
    obtain ⟨fd, F⟩ := cd.def_ 68 (d := d__law_is_still) rfl
    exact ⟨_, fd, F, m68⟩⟩
  have m69 : mg "law" = some (.ref (He.ga K "law")) := He.glo_ok KX G (cd.fact 69 (f := .glo "law") rfl)
  have T : Bl mg := ⟨He.free_ok KX G (cd.fact 70 (f := .free "all") rfl), He.free_ok KX G (cd.fact 71 (f := .free "any") rfl), He.free_ok KX G (cd.fact 72 (f := .free "bool") rfl), He.free_ok KX G (cd.fact 73 (f := .free "dict") rfl), He.free_ok KX G (cd.fact 74 (f := .free "enumerate") rfl), He.free_ok KX G (cd.fact 75 (f := .free "int") rfl), He.free_ok KX G (cd.fact 76 (f := .free "isinstance") rfl), He.free_ok KX G (cd.fact 77 (f := .free "len") rfl), He.free_ok KX G (cd.fact 78 (f := .free "list") rfl), He.free_ok KX G (cd.fact 79 (f := .free "max") rfl), He.free_ok KX G (cd.fact 80 (f := .free "min") rfl), He.free_ok KX G (cd.fact 81 (f := .free "range") rfl), He.free_ok KX G (cd.fact 82 (f := .free "sorted") rfl), He.free_ok KX G (cd.fact 83 (f := .free "str") rfl), He.free_ok KX G (cd.fact 84 (f := .free "sum") rfl), He.free_ok KX G (cd.fact 85 (f := .free "tuple") rfl)⟩
  have W : Wh K mg (He.ga K "WHOLE") := ⟨PySem.W.mg_of KX G (He.eqO_ok e2), fun H => He.tupB_ok e3 H⟩
  have TS : Tbl K w mg "STEPS" kvSteps := tbl_of (kvd := kv_STEPS) (PySem.W.mg_of KX G (He.eqO_ok e10)) (c.t.tab 0 (t := (fun K => He.ga K "STEPS", ["go", "get", "lose", "double", "tick", "tear", "fall"])) rfl) e9 (fun p hp => by
    simp only [kvSteps, List.mem_cons, List.not_mem_nil, or_false] at hp
    rcases hp with rfl | rfl | rfl | rfl | rfl | rfl | rfl
    · exact ⟨by simp [kv_STEPS], m9⟩
    · exact ⟨by simp [kv_STEPS], m10⟩
    · exact ⟨by simp [kv_STEPS], m10⟩
    · exact ⟨by simp [kv_STEPS], m10⟩
    · exact ⟨by simp [kv_STEPS], m12⟩
    · exact ⟨by simp [kv_STEPS], m11⟩
    · exact ⟨by simp [kv_STEPS], m12⟩)
  have TD : Tbl K w mg "DOES" kvDoes := tbl_of (kvd := kv_DOES) (PySem.W.mg_of KX G (He.eqO_ok e6)) (c.t.tab 1 (t := (fun K => He.ga K "DOES", ["go", "get", "lose", "double", "tick", "tear", "fall"])) rfl) e8 (fun p hp => by
    simp only [kvDoes, List.mem_cons, List.not_mem_nil, or_false] at hp
    rcases hp with rfl | rfl | rfl | rfl | rfl | rfl | rfl
    · exact ⟨by simp [kv_DOES], m41⟩
    · exact ⟨by simp [kv_DOES], m42⟩
    · exact ⟨by simp [kv_DOES], m43⟩
    · exact ⟨by simp [kv_DOES], m44⟩
    · exact ⟨by simp [kv_DOES], m45⟩
    · exact ⟨by simp [kv_DOES], m46⟩
    · exact ⟨by simp [kv_DOES], m47⟩)
  obtain ⟨fd, F⟩ := cd.def_ 69 (d := d_law) rfl
  have ef := hfa.symm.trans m69
  cases ef
  refine ⟨fd, fun s v => FunD.bindsA (ps := ["_law_script"]) F (fun _ _ _ _ _ _ us hl => match us, hl with | [_], _ => rfl) s [v] rfl, fun base _ _ => ?_⟩
  have k0 := c_is_number (P := P) (w := w) (base := base) T o0
  have k1 := c_are_numbers (P := P) (w := w) (base := base) T o1 k0
  have k2 := c_divisor (P := P) (w := w) (base := base) o2
  have k3 := c_fraction_of (P := P) (w := w) (base := base) o3 k2
  have k4 := c_plus (P := P) (w := w) (base := base) o4 k3
  have k5 := c_is_less (P := P) (w := w) (base := base) o5
  have k6 := c_is_lessW (P := P) (w := w) (base := base) W o5
  have k7 := c_lesser (P := P) (w := w) (base := base) o7 k5
  have k8 := c_minusW (P := P) (w := w) (base := base) W o6 k3 k6
  have k9 := c_is_lane (P := P) (w := w) (base := base) o8 k0
  have k10 := c_is_going (P := P) (w := w) (base := base) o9 k1
  have k11 := c_is_handling (P := P) (w := w) (base := base) o10 k1 k9
  have k12 := c_is_tearing (P := P) (w := w) (base := base) T o11 k9
  have k13 := c_is_bare (P := P) (w := w) (base := base) o12
  have k14 := c_is_step (P := P) (w := w) (base := base) T TS o13 k10 k11 k13 k12
  have k15 := c_groups_of (P := P) (w := w) (base := base) T o14
  have k16 := c_group_of (P := P) (w := w) (base := base) T o15 k1 k15
  have k17 := c_keys_of (P := P) (w := w) (base := base) T o16 k15 k16
  have k18 := c_is_key (P := P) (w := w) (base := base) T o17 k1 k17
  have k19 := c_call_of (P := P) (w := w) (base := base) o18 k18 k16
  have k20 := c_begun (P := P) (w := w) (base := base) T o19
  have k21 := c_heard_of (P := P) (w := w) (base := base) T o20
  have k22 := c_all_through (P := P) (w := w) (base := base) T o21
  have k23 := c_need_key (P := P) (w := w) (base := base) o22 k18
  have k24 := c_answer_had (P := P) (w := w) (base := base) T o23 k23
  have k25 := c_first_due (P := P) (w := w) (base := base) T o24
  have k26 := c_further_due (P := P) (w := w) (base := base) T o25
  have k27 := c_due (P := P) (w := w) (base := base) T W o26 k0 k25 k26 k6
  have k28 := c_with_caller (P := P) (w := w) (base := base) o27
  have k29 := c_with_calls (P := P) (w := w) (base := base) o28 k21
  have k30 := c_sent (P := P) (w := w) (base := base) T o29
  have k31 := c_ask_of (P := P) (w := w) (base := base) o30 k19
  have k32 := c_goes (P := P) (w := w) (base := base) W o31 k27 k4 k7 k8 k28 k29 k30 k31
  have k33 := c_is_new (P := P) (w := w) (base := base) T o32
  have k34 := c_heard_tell (P := P) (w := w) (base := base) o33 k33 k29 k28
  have k35 := c_groups_h (P := P) (w := w) (base := base) T o34
  have k36 := c_closed (P := P) (w := w) (base := base) T o35
  have k37 := c_decided (P := P) (w := w) (base := base) o36
  have k38 := c_forgotten (P := P) (w := w) (base := base) T o37
  have k39 := c_asked (P := P) (w := w) (base := base) T o38 k35 k38 k37 k36
  have k40 := c_fallen (P := P) (w := w) (base := base) T o39
  have k41 := c_without (P := P) (w := w) (base := base) T o40
  have k42 := c_do_go (P := P) (w := w) (base := base) o41 k32
  have k43 := c_do_get (P := P) (w := w) (base := base) o42 k41 k34 k33 k39 k30
  have k44 := c_do_lose (P := P) (w := w) (base := base) o43 k41
  have k45 := c_do_double (P := P) (w := w) (base := base) o44 k30
  have k46 := c_do_tick (P := P) (w := w) (base := base) o45
  have k47 := c_do_tear (P := P) (w := w) (base := base) T o46
  have k48 := c_do_fall (P := P) (w := w) (base := base) T o47 k40
  have k49 := c_can_be (P := P) (w := w) (base := base) T o48 k14
  have k50 := c_stepped (P := P) (w := w) (base := base) TD o49 k49 k42 k43 k44 k45 k46 k47 k48
  have k51 := c_run2 (P := P) (w := w) (base := base) T o50 k20 k50
  have k52 := c_run3 (P := P) (w := w) (base := base) T o50 k20 k50
  have k53 := c_run4 (P := P) (w := w) (base := base) T o50 k20 k50
  have k54 := c_fair_round (P := P) (w := w) (base := base) T o51 k50 k27
  have k55 := c_has_open (P := P) (w := w) (base := base) T o52
  have k56 := c_is_stuck (P := P) (w := w) (base := base) T W o53 k22 k27 k55 k6
  have k57 := c_fair_run (P := P) (w := w) (base := base) o54 k22 k56 k54
  have k58 := c_lmesh (P := P) (w := w) (base := base) T o55
  have k59 := c_tug (P := P) (w := w) (base := base) T o56
  have k60 := c_deal (P := P) (w := w) (base := base) T o57 k59
  have k61 := c_llabels (P := P) (w := w) (base := base) T o58
  have k62 := c_lbegun (P := P) (w := w) (base := base) T o59
  have k63 := c_lheard (P := P) (w := w) (base := base) T o60
  have k64 := c_ldue (P := P) (w := w) (base := base) T o61 k63
  have k65 := c_lgo (P := P) (w := w) (base := base) T o62 k63 k64
  have k66 := c_lasked (P := P) (w := w) (base := base) T o63
  have k67 := c_lget (P := P) (w := w) (base := base) T o64 k66
  have k68 := c_lstep (P := P) (w := w) (base := base) T o65 k65 k67
  have k69 := c_lact (P := P) (w := w) (base := base) T o66 k59
  have k70 := c_lplan (P := P) (w := w) (base := base) T o67 k62 k69 k68
  have k71 := c_lstill (P := P) (w := w) (base := base) T o68 k59 k52 k61 k24 k27
  exact fn_law T F k58 k59 k60 k70 k61 k71 k51 k53 k57 k24 k56 k22 k54
end
end TC
set_option Elab.async false
set_option linter.all false
set_option maxRecDepth 100000
set_option maxHeartbeats 0
/-! The law holds. -/
open PySem PySem.W PySem.Calls PyProof.Rows
theorem PySem.Challenge.cw_twicecalls_k70_whole_fair_ends_holds : PySem.Challenge.rw_twicecalls_k70_whole_fair_ends.Holds := by
  w_on; o_law
  refine HandSHeadRun.head_any (r := TC.R) (q := view TC.R.prog [88]) (H := TC.hk) (ob := TC.ob) (M := 4000) (loose := TC.names) (d := HandSHeadRun.topDef TC.R.prog 88) (kwd := []) TC.ob_eq (by kernel_rfl) (fun s => by kernel_rfl) TC.run (by kernel_rfl) (by kernel_rfl) (by kernel_rfl) (by rfl) (by first | assumption | decide +kernel) (by decide +kernel) ⟨rfl, rfl, rfl, rfl, rfl, by decide +kernel⟩ ?hw ?hc
  case hw => w_witness2
  case hc =>
    refine L2.walk_ofE (l := PySem.Challenge.rw_twicecalls_k70_whole_fair_ends) (n := 63) (k := 13) (x := "_law_script") (CX := L2.CX0) rfl (by decide) (by kernel_rfl) ⟨rfl, by decide, by decide⟩ ?F (fun _ _ _ _ z => z)
    intro w mg fa h Y G hmg0
    obtain ⟨K, KX, c⟩ := Y
    have hmg : mg ("law" : PySem.Str) = some (.ref fa) := by
      have e : (HandSHeadRun.topDef TC.R.prog 88).name = ("law" : PySem.Str) := by kernel_rfl
      rw [← e]
      exact hmg0
    obtain ⟨fd, hb, hF⟩ := TC.facts (P := PySem.Challenge.rw_twicecalls_k70_whole_fair_ends.prog) (w := w) KX G hmg c
    exact ⟨K, fd, TC.ASl K (TC.R_law K), KX, hb, fun H a ns _ _ hS => TC.law_sp hS, hF⟩
