import PyProof.Rows.All
import Wide.All
import OpenK.AllK
import Wide.FinOn
import HandS.ForMost
import HandS.Walk
import HandS.Zip
import HandS.IsInst
import HandS.TupAny
import KE.KeyNested
import KE.DatumIndex
import PyProof.ReprRoads
import HandS.RaiseMore
import HandS.TupMul
import PyProof.StrLawsRepr
import PyProof.ContainsOpen
import HandS.OwnEq
import HandS.Set
import KE.DataEq
import HandS.DictComp
import HandS.SetFor
import HandS.Strs
import KE.KDictPairs
import HandS.Zip0
import KE.GoesMore
import HandS.Style
import KE.GoesEnum
import KE.SortData
import KE.KDictSum
import KE.GoesZip
import HandS.Flow
import HandS.Dict
import HandS.Iter
import PyProof.DictRoadsH
import KE.LtData
import HandS.Defaults
import PySem.Challenge.RW_fitruns_k07_questions_of_any_value
set_option Elab.async false
set_option linter.all false
set_option maxRecDepth 100000
set_option maxHeartbeats 4000000
namespace FR
open PySem PySem.Spec PyProof.Rows L2
/-! ## tuples whose own object is known to bear no dict -/
def PT (H : Hp) (a : Addr) (xs : List V) : Prop := ∃ o : Obj, H a = some (.frz o (.tup xs)) ∧ o.dict = none
theorem PT.rd {H : Hp} {a : Addr} {xs : List V} (h : PT H a xs) : Rd H a (.tup xs) := by
  obtain ⟨o, e, _⟩ := h
  exact .inr ⟨o, e⟩
theorem PT.sq {K : PySem.W.Frag} {H : Hp} {a : Addr} {xs : List V} (h : PT H a xs) : SqT K H a xs := .inl h.rd
/-- what is to be shown of a new tuple -/
def NewT (H : Hp) (xs : List V) (Q : VK) : Prop := ∀ p (o : Obj), H p = none → o.dict = none → Q (.ref p) (upd H p (.frz o (.tup xs)))
section
variable {X : Cx} {K : PySem.W.Frag} {pins : List (Addr × Obj)} {σ : L2.St} {H : Hp} {s : Shared}
theorem Inv.newT {h' : Heap} {a : Addr} {o : Obj} {t' : Nat} {xs : List V} {its : List Value} (I : L2.Inv X pins σ H s) (k : ∀ b u, s.heap.get? b = some u → h'.get? b = some u) (hp : s.heap.objs.size ≤ a) (hz : xs.length ≤ sizeLine) (r : Vals xs its) (ho : h'.get? a = some o) (hc : o.cls = .type "tuple") (hd : ∃ n, o.data = .seq its.toArray n) :
    L2.Inv X pins σ (upd H a (.frz o (.tup xs))) { s with heap := h', toks := t' } := I.laid k hp ⟨ho, hz, its, r, o, ho, hc, hd⟩
def tTupP (t : TA) : TE := fun σ H Q => t σ H fun xs H1 => xs.length ≤ sizeLine ∧ NewT H1 xs Q
theorem pe_tupP {es : List Expr} {t : TA} {pos : Pos} {x1} (h : PA X es t) : PE X (.Tuple es x1 pos) (tTupP t) :=
  ⟨fun pins s σ H Q I hq => wpAny_Tuple_spliced (thn (h.run pos pins s σ H _ I hq) fun us s1 z => by
    obtain ⟨xs, H1, I1, r, hz, q⟩ := z
    refine ⟨by rw [← r.length]; exact hz, .ref s1.heap.objs.size, _, Inv.newT (t' := s1.toks) I1 (fun b u e => Heap.get?_push_of_some _ e) (Nat.le_refl _) hz r (Heap.get?_push_size _ rfl) rfl ⟨_, rfl⟩, rfl, q _ _ (I1.hok.fresh (Nat.le_refl _)) rfl⟩)⟩
/-- tuple(x) -/
def rTupP (K : PySem.W.Frag) : List V → Hp → VK → Prop := fun xs H Q => ∃ p ys, xs = [.ref p] ∧ ((SqL K H p ys ∧ NewT H ys Q) ∨ (SqT K H p ys ∧ Q (.ref p) H))
theorem k_tupleP (hK : X.K = K) : CallR X (.type "tuple") (rTupP K) := by
  subst hK
  intro pins s σ H xs us Q I r h
  obtain ⟨p, ys, rfl, h⟩ := h
  obtain ⟨u, rfl, rx⟩ := vals1 r
  cases rx
  rcases h with ⟨hq, q⟩ | ⟨hq, q⟩
  · obtain ⟨its, r', pl, hz⟩ := I.list hq
    have hlen := r'.length
    refine call_tuple_list pl.isList (fun h' kp => ?_) (by simp only [List.size_toArray] <;> omega)
    have I1 : L2.Inv X pins σ H { s with heap := h' } := I.kept (t' := s.toks) kp
    have I2 := Inv.newT (s := { s with heap := h' }) (a := h'.objs.size) (h' := h'.push { cls := .type "tuple", data := .seq its.toArray }) (t' := s.toks) I1 (fun b o e => Heap.get?_push_of_some _ e) (Nat.le_refl _) hz r' (Heap.get?_push_size _ rfl) rfl ⟨_, rfl⟩
    exact ⟨.ref h'.objs.size, _, I2, rfl, q _ _ (I1.hok.fresh (Nat.le_refl _)) rfl⟩
  · obtain ⟨its, r', pl, hz⟩ := I.tuple hq
    exact call_tuple_same pl ⟨.ref p, H, I, rfl, q⟩
/-- t + u -/
def rCatP (K : PySem.W.Frag) : R2 := fun x y H Q => ∃ a b xs ys, x = .ref a ∧ y = .ref b ∧ SqT K H a xs ∧ SqT K H b ys ∧ xs.length + ys.length ≤ sizeLine ∧ (xs = [] → Q (.ref b) H) ∧ (xs ≠ [] → ys = [] → Q (.ref a) H) ∧ (xs ≠ [] → ys ≠ [] → NewT H (xs ++ ys) Q)
theorem k_catP (hK : X.K = K) : OpR X (binaryOp .Add) (rCatP K) := by
  subst hK
  intro pins s σ H x y v u Q I rx ry h
  obtain ⟨a, b, xs, ys, rfl, rfl, ha, hb, hz, q0, q1, q2⟩ := h
  cases rx; cases ry
  obtain ⟨its, r1, p1, _⟩ := I.tuple ha
  obtain ⟨its2, r2, p2, _⟩ := I.tuple hb
  by_cases hx : xs = []
  · subst hx
    cases r1
    exact cat_tup0 p1 p2 ⟨.ref b, H, I, rfl, q0 rfl⟩
  · refine HT.cat_tup p1 p2 (fun z => hx (r1.nil_iff.mp z)) (fun z => ⟨.ref a, H, I, rfl, q1 hx (r2.nil_iff.mp z)⟩) (fun z => ?_) (by rw [← r1.length, ← r2.length]; exact hz)
    exact ⟨.ref s.heap.objs.size, _, Inv.newT (t' := s.toks) I (fun b ob q => Heap.get?_push_of_some _ q) (Nat.le_refl _) (by rw [List.length_append]; exact hz) (r1.append r2) (Heap.get?_push_size _ rfl) rfl ⟨_, rfl⟩, rfl, q2 hx (fun w => z (r2.nil_iff.mpr w)) _ _ (I.hok.fresh (Nat.le_refl _)) rfl⟩
/-- t[lo:hi] -/
def rSlP (K : PySem.W.Frag) : V → Option Int → Option Int → Hp → VK → Prop := fun x lo hi H Q => ∃ a xs, x = .ref a ∧ SqT K H a xs ∧
  (HT.sIx xs.length 0 lo = 0 ∧ HT.sIx xs.length xs.length hi = xs.length → Q (.ref a) H) ∧ (¬ (HT.sIx xs.length 0 lo = 0 ∧ HT.sIx xs.length xs.length hi = xs.length) → NewT H (cutV xs lo hi) Q)
theorem k_slP (hK : X.K = K) : SlR X (rSlP K) := by
  subst hK
  intro pins s σ H x v vl vu lo hi sl Q I rx hs pl pu h
  obtain ⟨a, xs, rfl, hx, q1, q2⟩ := h
  cases rx
  obtain ⟨its, r, ht, hz⟩ := I.tuple hx
  have hlen : its.toArray.size = xs.length := by rw [List.size_toArray]; exact r.length.symm
  refine ⟨"tuple", _, PyProof.Rows.slot_tuple_getitem.lookup, ht.typeIs, ?_⟩
  by_cases hw : HT.sIx xs.length 0 lo = 0 ∧ HT.sIx xs.length xs.length hi = xs.length
  · exact getItem_tuple_whole ht hs pl pu (by rw [hlen]; exact hw) ⟨.ref a, H, I, rfl, q1 hw⟩
  · refine HT.getItem_tuple_cut ht hs pl pu (by rw [hlen]; exact hw) ?_ (by rw [hlen]; exact hz)
    rw [hlen]
    exact ⟨.ref s.heap.objs.size, _, Inv.newT (t' := s.toks) I (fun b ob q => Heap.get?_push_of_some _ q) (Nat.le_refl _) (Nat.le_trans (cutV_length xs lo hi) hz) ((r.drop (HT.sIx xs.length 0 lo)).take (HT.sIx xs.length xs.length hi - HT.sIx xs.length 0 lo)) (Heap.get?_push_size _ rfl) rfl ⟨_, rfl⟩, rfl, q2 hw _ _ (I.hok.fresh (Nat.le_refl _)) rfl⟩
end
end FR
namespace FR
open PySem L2
/-- the world of all that follows -/
class TheW where
  w : World
variable [TheW]

/-! ## data without a heap -/
inductive D where
  | non | bl (b : Bool) | int (i : Int) | str (x : Str)
  | lst (xs : List D) | tup (xs : List D) | dct (kvs : List (Key × D)) | ty (n : String) | lsq (xs : List D)
  | dcT (kvs : List (NestedKey × D)) | ins (C a dx : Addr) (fs : List (Str × D)) | tpk (xs : List D)

/-- a key as a datum -/
def nkD : NestedKey → D
  | .none => .non
  | .num i => .int i
  | .text x => .str x
  | .tup ks => .tup (nkL ks)
where nkL : List NestedKey → List D
  | [] => []
  | k :: ks => nkD k :: nkL ks
/-- a dict whose keys are tuples, by its entries: the key, where it stands, the value -/
def DcO (w : World) (a : Addr) (es : List (NestedKey × Addr × V)) : HO := .ext fun h => es.length ≤ sizeLine ∧ (a == sysModules) = false ∧ (es.map (·.1)).Nodup ∧
  ∃ o ents ep, h.get? a = some o ∧ o.ExactDict ∧ o.data = .dict ents ep ∧ Paired (fun (x : NestedKey × Addr × V) (e : DictEntry) => e.hash = x.1.hash w ∧ e.key = .ref x.2.1 ∧ RelV x.2.2 e.val) es ents.toList
mutual
inductive Rp (K : PySem.W.Frag) (H : Hp) : V → D → Prop
  | non : Rp K H .non .non
  | bl (b : Bool) : Rp K H (.bl b) (.bl b)
  | int (i : Int) : Rp K H (.int i) (.int i)
  | str (x : Str) : Rp K H (.str x) (.str x)
  | ty (n : String) : Rp K H (.ty n) (.ty n)
  | lst {a : Addr} {xs : List V} {ds : List D} : H a = some (.lst xs) → RpL K H xs ds → Rp K H (.ref a) (.lst ds)
  | lsq {a : Addr} {xs : List V} {ds : List D} : SqL K H a xs → RpL K H xs ds → Rp K H (.ref a) (.lsq ds)
  | tup {a : Addr} {xs : List V} {ds : List D} : PT H a xs → RpL K H xs ds → Rp K H (.ref a) (.tup ds)
  | tpk {a : Addr} {xs : List V} {ds : List D} : Rd H a (.tup xs) → RpL K H xs ds → Rp K H (.ref a) (.tpk ds)
  | dct {a : Addr} {kvs : List (Key × V)} {ds : List (Key × D)} : Rd H a (.dK kvs) → RpK K H kvs ds → Rp K H (.ref a) (.dct ds)
  | dcT {a : Addr} {es : List (NestedKey × Addr × V)} {ds : List (NestedKey × D)} : Rd H a (DcO TheW.w a es) → RpT K H es ds → Rp K H (.ref a) (.dcT ds)
  | ins {a C dx a' dx' : Addr} {fs : List (Str × V)} {ds : List (Str × D)} : H a = some (.ins C dx fs) → RpF K H fs ds → Rp K H (.ref a) (.ins C a' dx' ds)
inductive RpL (K : PySem.W.Frag) (H : Hp) : List V → List D → Prop
  | nil : RpL K H [] []
  | cons {v : V} {vs : List V} {d : D} {ds : List D} : Rp K H v d → RpL K H vs ds → RpL K H (v :: vs) (d :: ds)
inductive RpK (K : PySem.W.Frag) (H : Hp) : List (Key × V) → List (Key × D) → Prop
  | nil : RpK K H [] []
  | cons {k : Key} {v : V} {vs : List (Key × V)} {d : D} {ds : List (Key × D)} : Rp K H v d → RpK K H vs ds → RpK K H ((k, v) :: vs) ((k, d) :: ds)
inductive RpT (K : PySem.W.Frag) (H : Hp) : List (NestedKey × Addr × V) → List (NestedKey × D) → Prop
  | nil : RpT K H [] []
  | cons {k : NestedKey} {q : Addr} {v : V} {vs : List (NestedKey × Addr × V)} {d : D} {ds : List (NestedKey × D)} : k.depth ≤ 8 → Rp K H (.ref q) (nkD k) → Rp K H v d → RpT K H vs ds → RpT K H ((k, q, v) :: vs) ((k, d) :: ds)
inductive RpF (K : PySem.W.Frag) (H : Hp) : List (Str × V) → List (Str × D) → Prop
  | nil : RpF K H [] []
  | cons {k : Str} {v : V} {vs : List (Str × V)} {d : D} {ds : List (Str × D)} : Rp K H v d → RpF K H vs ds → RpF K H ((k, v) :: vs) ((k, d) :: ds)
end

theorem same_sq {K : PySem.W.Frag} {H H' : Hp} {a : Addr} {xs : List V} (e : Same H H') (h : SqT K H a xs) : SqT K H' a xs := by
  rcases h with (h | ⟨o, h⟩) | h
  · exact .inl (.inl (e _ _ h))
  · exact .inl (.inr ⟨o, e _ _ h⟩)
  · exact .inr h

theorem same_rd {H H' : Hp} {a : Addr} {o : HO} (e : Same H H') (h : Rd H a o) : Rd H' a o := by
  rcases h with h | ⟨u, h⟩
  · exact .inl (e _ _ h)
  · exact .inr ⟨u, e _ _ h⟩
theorem same_pt {H H' : Hp} {a : Addr} {xs : List V} (e : Same H H') (h : PT H a xs) : PT H' a xs := by
  obtain ⟨o, h1, h2⟩ := h
  exact ⟨o, e _ _ h1, h2⟩
theorem same_sqT {K : PySem.W.Frag} {H H' : Hp} {a : Addr} {xs : List V} (e : Same H H') (h : PT H a xs) : SqT K H' a xs := (same_pt e h).sq
mutual
theorem Rp.mono {K : PySem.W.Frag} {H H' : Hp} (e : Same H H') : ∀ {v : V} {d : D}, Rp K H v d → Rp K H' v d
  | _, _, .non => .non
  | _, _, .bl b => .bl b
  | _, _, .int b => .int b
  | _, _, .str b => .str b
  | _, _, .ty b => .ty b
  | _, _, .lst h r => .lst (e _ _ h) (RpL.mono e r)
  | _, _, .tup h r => .tup (same_pt e h) (RpL.mono e r)
  | _, _, .tpk h r => .tpk (same_rd e h) (RpL.mono e r)
  | _, _, .lsq h r => .lsq (Same.seq e h) (RpL.mono e r)
  | _, _, .dct h r => .dct (same_rd e h) (RpK.mono e r)
  | _, _, .dcT h r => .dcT (same_rd e h) (RpT.mono e r)
  | _, _, .ins h r => .ins (e _ _ h) (RpF.mono e r)
theorem RpL.mono {K : PySem.W.Frag} {H H' : Hp} (e : Same H H') : ∀ {v : List V} {d : List D}, RpL K H v d → RpL K H' v d
  | _, _, .nil => .nil
  | _, _, .cons a b => .cons (Rp.mono e a) (RpL.mono e b)
theorem RpK.mono {K : PySem.W.Frag} {H H' : Hp} (e : Same H H') : ∀ {v : List (Key × V)} {d : List (Key × D)}, RpK K H v d → RpK K H' v d
  | _, _, .nil => .nil
  | _, _, .cons a b => .cons (Rp.mono e a) (RpK.mono e b)
theorem RpT.mono {K : PySem.W.Frag} {H H' : Hp} (e : Same H H') : ∀ {v : List (NestedKey × Addr × V)} {d : List (NestedKey × D)}, RpT K H v d → RpT K H' v d
  | _, _, .nil => .nil
  | _, _, .cons z c a b => .cons z (Rp.mono e c) (Rp.mono e a) (RpT.mono e b)
theorem RpF.mono {K : PySem.W.Frag} {H H' : Hp} (e : Same H H') : ∀ {v : List (Str × V)} {d : List (Str × D)}, RpF K H v d → RpF K H' v d
  | _, _, .nil => .nil
  | _, _, .cons a b => .cons (Rp.mono e a) (RpF.mono e b)
end
/-- a thing that is still being changed, as the datum that it is now -/
inductive OwR (K : PySem.W.Frag) (U : Hp) (p : Addr) : HO → D → Prop
  | lst {ws : List V} {xs : List D} : RpL K U ws xs → OwR K U p (.lst ws) (.lst xs)
  | dct {ks : List (Key × V)} {xs : List (Key × D)} : RpK K U ks xs → OwR K U p (.dK ks) (.dct xs)
  | dcT {ks : List (NestedKey × Addr × V)} {xs : List (NestedKey × D)} : RpT K U ks xs → OwR K U p (DcO TheW.w p ks) (.dcT xs)
  | ins {C dx : Addr} {fs : List (Str × V)} {xs : List (Str × D)} : RpF K U fs xs → OwR K U p (.ins C dx fs) (.ins C p dx xs)
theorem OwR.mono {K : PySem.W.Frag} {U U' : Hp} {o : HO} {x : D} {p : Addr} (e : Same U U') : OwR K U p o x → OwR K U' p o x
  | .lst h => .lst (h.mono e)
  | .dct h => .dct (h.mono e)
  | .dcT h => .dcT (h.mono e)
  | .ins h => .ins (h.mono e)
theorem OwR.rp {K : PySem.W.Frag} {U : Hp} {o : HO} {x : D} {p : Addr} (h : U p = some o) : OwR K U p o x → Rp K U (.ref p) x
  | .lst r => .lst h r
  | .dct r => .dct (.inl h) r
  | .dcT r => .dcT (.inl h) r
  | .ins r => .ins h r
theorem RpL.len {K : PySem.W.Frag} {H : Hp} : ∀ {v : List V} {d : List D}, RpL K H v d → v.length = d.length
  | _, _, .nil => rfl
  | _, _, .cons _ b => by simp [RpL.len b]
theorem RpL.get {K : PySem.W.Frag} {H : Hp} : ∀ {v : List V} {d : List D} {i : Nat} {x : D}, RpL K H v d → d[i]? = some x → ∃ u, v[i]? = some u ∧ Rp K H u x
  | _, _, _, _, .nil, h => by simp at h
  | _, _, 0, x, .cons a b, h => by simp at h; subst h; exact ⟨_, rfl, a⟩
  | _, _, i + 1, x, .cons a b, h => by
    obtain ⟨u, h1, h2⟩ := RpL.get (i := i) (x := x) b (by simpa using h)
    exact ⟨u, by simpa using h1, h2⟩
theorem RpL.getV {K : PySem.W.Frag} {H : Hp} : ∀ {v : List V} {d : List D} {i : Nat} {u : V}, RpL K H v d → v[i]? = some u → ∃ x, d[i]? = some x ∧ Rp K H u x
  | _, _, _, _, .nil, h => by simp at h
  | _, _, 0, x, .cons a b, h => by simp at h; subst h; exact ⟨_, rfl, a⟩
  | _, _, i + 1, x, .cons a b, h => by
    obtain ⟨u, h1, h2⟩ := RpL.getV (i := i) (u := x) b (by simpa using h)
    exact ⟨u, by simpa using h1, h2⟩
theorem RpL.app {K : PySem.W.Frag} {H : Hp} : ∀ {v w : List V} {d e : List D}, RpL K H v d → RpL K H w e → RpL K H (v ++ w) (d ++ e)
  | _, _, _, _, .nil, h => h
  | _, _, _, _, .cons a b, h => .cons a (RpL.app b h)
theorem RpL.split {K : PySem.W.Frag} {H : Hp} : ∀ {v w : List V} {d e : List D}, v.length = d.length → RpL K H (v ++ w) (d ++ e) → RpL K H v d ∧ RpL K H w e
  | [], _, [], _, _, h => ⟨.nil, h⟩
  | [], _, _ :: _, _, l, _ => by simp at l
  | _ :: _, _, [], _, l, _ => by simp at l
  | _ :: _, _, _ :: _, _, l, .cons a b => by
    have h := RpL.split (by simpa using l) b
    exact ⟨.cons a h.1, h.2⟩
theorem RpL.take {K : PySem.W.Frag} {H : Hp} : ∀ {v : List V} {d : List D} (n : Nat), RpL K H v d → RpL K H (v.take n) (d.take n)
  | _, _, 0, _ => .nil
  | _, _, _ + 1, .nil => .nil
  | _, _, n + 1, .cons a b => .cons a (RpL.take n b)
theorem RpL.drop {K : PySem.W.Frag} {H : Hp} : ∀ {v : List V} {d : List D} (n : Nat), RpL K H v d → RpL K H (v.drop n) (d.drop n)
  | _, _, 0, h => h
  | _, _, _ + 1, .nil => .nil
  | _, _, n + 1, .cons _ b => RpL.drop n b

/-! ## heaps with parts hidden -/
def era (H : Hp) (M : List Addr) : Hp := fun b => if b ∈ M then Option.none else H b
theorem era_some {H : Hp} {M : List Addr} {b : Addr} {o : HO} (h : era H M b = some o) : H b = some o ∧ b ∉ M := by
  unfold era at h
  split at h
  · cases h
  · exact ⟨h, by assumption⟩
theorem era_of {H : Hp} {M : List Addr} {b : Addr} {o : HO} (h : H b = some o) (n : b ∉ M) : era H M b = some o := by
  unfold era; rw [if_neg n]; exact h
theorem era_sub (H : Hp) (M : List Addr) : Same (era H M) H := fun _ _ h => (era_some h).1
theorem era_less {H : Hp} {M M' : List Addr} (h : ∀ b ∈ M', b ∈ M) : Same (era H M) (era H M') := fun b o e => by
  obtain ⟨e1, e2⟩ := era_some e
  exact era_of e1 fun z => e2 (h b z)
theorem era_mono {H H' : Hp} (M : List Addr) (e : Same H H') : Same (era H M) (era H' M) := fun b o h => by
  obtain ⟨h1, h2⟩ := era_some h
  exact era_of (e _ _ h1) h2
theorem same_new {H : Hp} {p : Addr} {o : HO} (h : H p = Option.none) : Same H (upd H p o) := fun b u e => by
  rw [upd_ne (ne_of_none e h)]; exact e

/-! ## the pot of draws -/
def potMost : Nat := 1000000
def PotOk (H : Hp) (p : Addr) (n : Nat) : Prop := ∃ a b c : Int, H p = some (.lst [.int a, .int b, .int c]) ∧ 0 ≤ a ∧ a < 10 ^ 300 ∧ 0 ≤ b ∧ b < 2305843009213693921 ∧ 0 ≤ c ∧ c ≤ n
theorem PotOk.mono {H H' : Hp} {p : Addr} {n : Nat} (e : Same H H') (h : PotOk H p n) : PotOk H' p n := by
  obtain ⟨a, b, c, h, r⟩ := h
  exact ⟨a, b, c, e _ _ h, r⟩
theorem PotOk.le {H : Hp} {p : Addr} {n m : Nat} (h : PotOk H p n) (l : n ≤ m) : PotOk H p m := by
  obtain ⟨a, b, c, h, h1, h2, h3, h4, h5, h6⟩ := h
  exact ⟨a, b, c, h, h1, h2, h3, h4, h5, by omega⟩
theorem PotOk.there {H : Hp} {p : Addr} {n : Nat} (h : PotOk H p n) : H p ≠ Option.none := by
  obtain ⟨a, b, c, h, _⟩ := h
  rw [h]; exact fun z => by cases z

/-! ## worlds -/
inductive E where
  | any | d (x : D) | own (x : D) | pot

structure Wo where
  K : PySem.W.Frag
  P : Option Addr
  M0 : List Addr
  H0 : Hp

def EnvOk (W : Wo) (U H : Hp) : List E → St → List Addr → Prop
  | [], [], [] => True
  | .any :: es, _ :: σ, M => EnvOk W U H es σ M
  | .d x :: es, o :: σ, M => (∃ v, o = some v ∧ Rp W.K U v x) ∧ EnvOk W U H es σ M
  | .own xs :: es, o :: σ, p :: M => (∃ vs, o = some (.ref p) ∧ H p = some vs ∧ OwR W.K U p vs xs) ∧ EnvOk W U H es σ M
  | .pot :: es, o :: σ, M => (∃ p, o = some (.ref p) ∧ W.P = some p) ∧ EnvOk W U H es σ M
  | _, _, _ => False

theorem EnvOk.mono {W : Wo} {U U' H H' : Hp} (eu : Same U U') (eh : Same H H') : ∀ {env : List E} {σ : St} {M : List Addr}, EnvOk W U H env σ M → EnvOk W U' H' env σ M
  | [], [], [], _ => trivial
  | [], [], _ :: _, h => h.elim
  | [], _ :: _, _, h => h.elim
  | .any :: es, [], _, h => h.elim
  | .any :: es, _ :: σ, M, h => EnvOk.mono (env := es) (σ := σ) eu eh h
  | .d x :: es, [], _, h => h.elim
  | .d x :: es, o :: σ, M, h => ⟨by obtain ⟨v, e, r⟩ := h.1; exact ⟨v, e, r.mono eu⟩, EnvOk.mono (env := es) (σ := σ) eu eh h.2⟩
  | .own xs :: es, [], _, h => h.elim
  | .own xs :: es, _ :: _, [], h => h.elim
  | .own xs :: es, o :: σ, p :: M, h => ⟨by obtain ⟨vs, e, q, r⟩ := h.1; exact ⟨vs, e, eh _ _ q, r.mono eu⟩, EnvOk.mono (env := es) (σ := σ) eu eh h.2⟩
  | .pot :: es, [], _, h => h.elim
  | .pot :: es, o :: σ, M, h => ⟨h.1, EnvOk.mono (env := es) (σ := σ) eu eh h.2⟩

theorem EnvOk.len {W : Wo} {U H : Hp} : ∀ {env : List E} {σ : St} {M : List Addr}, EnvOk W U H env σ M → σ.length = env.length
  | [], [], [], _ => rfl
  | [], [], _ :: _, h => h.elim
  | [], _ :: _, _, h => h.elim
  | .any :: es, [], _, h => h.elim
  | .any :: es, _ :: σ, M, h => by simp [EnvOk.len (env := es) (σ := σ) (M := M) h]
  | .d x :: es, [], _, h => h.elim
  | .d x :: es, o :: σ, M, h => by simp [EnvOk.len (env := es) (σ := σ) (M := M) h.2]
  | .own xs :: es, [], _, h => h.elim
  | .own xs :: es, _ :: _, [], h => h.elim
  | .own xs :: es, o :: σ, p :: M, h => by simp [EnvOk.len (env := es) (σ := σ) (M := M) h.2]
  | .pot :: es, [], _, h => h.elim
  | .pot :: es, o :: σ, M, h => by simp [EnvOk.len (env := es) (σ := σ) (M := M) h.2]

theorem EnvOk.getD {W : Wo} {U H : Hp} : ∀ {env : List E} {σ : St} {M : List Addr} {i : Nat} {x : D}, EnvOk W U H env σ M → env[i]? = some (.d x) → ∃ v, σ[i]? = some (some v) ∧ Rp W.K U v x
  | [], _, _, _, _, _, h => by simp at h
  | .any :: es, [], _, _, _, h, _ => h.elim
  | .any :: es, _ :: σ, M, 0, x, h, e => by simp at e
  | .any :: es, _ :: σ, M, i + 1, x, h, e => by
    simpa using EnvOk.getD (env := es) (σ := σ) (M := M) (i := i) (x := x) h (by simpa using e)
  | .d _ :: es, [], _, _, _, h, _ => h.elim
  | .d y :: es, o :: σ, M, 0, x, h, e => by
    simp at e; subst e; obtain ⟨v, e1, r⟩ := h.1; exact ⟨v, by simp [e1], r⟩
  | .d y :: es, o :: σ, M, i + 1, x, h, e => by
    simpa using EnvOk.getD (env := es) (σ := σ) (M := M) (i := i) (x := x) h.2 (by simpa using e)
  | .own xs :: es, [], _, _, _, h, _ => h.elim
  | .own xs :: es, _ :: _, [], _, _, h, _ => h.elim
  | .own xs :: es, o :: σ, p :: M, 0, x, h, e => by simp at e
  | .own xs :: es, o :: σ, p :: M, i + 1, x, h, e => by
    simpa using EnvOk.getD (env := es) (σ := σ) (M := M) (i := i) (x := x) h.2 (by simpa using e)
  | .pot :: es, [], _, _, _, h, _ => h.elim
  | .pot :: es, o :: σ, M, 0, x, h, e => by simp at e
  | .pot :: es, o :: σ, M, i + 1, x, h, e => by
    simpa using EnvOk.getD (env := es) (σ := σ) (M := M) (i := i) (x := x) h.2 (by simpa using e)

theorem EnvOk.getP {W : Wo} {U H : Hp} : ∀ {env : List E} {σ : St} {M : List Addr} {i : Nat}, EnvOk W U H env σ M → env[i]? = some .pot → ∃ p, σ[i]? = some (some (.ref p)) ∧ W.P = some p
  | [], _, _, _, _, h => by simp at h
  | .any :: es, [], _, _, h, _ => h.elim
  | .any :: es, _ :: σ, M, 0, h, e => by simp at e
  | .any :: es, _ :: σ, M, i + 1, h, e => by
    simpa using EnvOk.getP (env := es) (σ := σ) (M := M) (i := i) h (by simpa using e)
  | .d _ :: es, [], _, _, h, _ => h.elim
  | .d y :: es, o :: σ, M, 0, h, e => by simp at e
  | .d y :: es, o :: σ, M, i + 1, h, e => by
    simpa using EnvOk.getP (env := es) (σ := σ) (M := M) (i := i) h.2 (by simpa using e)
  | .own xs :: es, [], _, _, h, _ => h.elim
  | .own xs :: es, _ :: _, [], _, h, _ => h.elim
  | .own xs :: es, o :: σ, p :: M, 0, h, e => by simp at e
  | .own xs :: es, o :: σ, p :: M, i + 1, h, e => by
    simpa using EnvOk.getP (env := es) (σ := σ) (M := M) (i := i) h.2 (by simpa using e)
  | .pot :: es, [], _, _, h, _ => h.elim
  | .pot :: es, o :: σ, M, 0, h, e => by obtain ⟨p, e1, r⟩ := h.1; exact ⟨p, by simp [e1], r⟩
  | .pot :: es, o :: σ, M, i + 1, h, e => by
    simpa using EnvOk.getP (env := es) (σ := σ) (M := M) (i := i) h.2 (by simpa using e)


theorem EnvOk.ofL {W : Wo} {U H : Hp} : ∀ {us : List V} {ds : List D} {es : List E} {vs : St} {M : List Addr}, RpL W.K U us ds → EnvOk W U H es vs M → EnvOk W U H (ds.map E.d ++ es) (us.map some ++ vs) M
  | _, _, _, _, _, .nil, h => h
  | _, _, _, _, _, .cons a b, h => ⟨⟨_, rfl, a⟩, EnvOk.ofL b h⟩
theorem EnvOk.toL {W : Wo} {U H : Hp} : ∀ {us : List V} {ds : List D} {es : List E} {vs : St} {M : List Addr}, us.length = ds.length → EnvOk W U H (ds.map E.d ++ es) (us.map some ++ vs) M → RpL W.K U us ds ∧ EnvOk W U H es vs M
  | [], [], _, _, _, _, h => ⟨.nil, h⟩
  | [], _ :: _, _, _, _, l, _ => by simp at l
  | _ :: _, [], _, _, _, l, _ => by simp at l
  | u :: us, d :: ds, es, vs, M, l, h => by
    obtain ⟨⟨v, e, r⟩, h2⟩ := h
    cases e
    have q := EnvOk.toL (us := us) (ds := ds) (es := es) (vs := vs) (M := M) (by simpa using l) h2
    exact ⟨.cons r q.1, q.2⟩

structure Wd (W : Wo) (n : Nat) (env : List E) (σ : St) (stk : List E) (vs : St) (H : Hp) : Prop where
  keep : ∀ b o, W.P ≠ some b → W.H0 b = some o → H b = some o
  hid : ∀ p ∈ W.M0, W.H0 p ≠ Option.none
  pot : ∀ p, W.P = some p → p ∈ W.M0 ∧ PotOk H p n
  rest : ∃ M1 M2 : List Addr, (∀ p ∈ M1 ++ M2, W.H0 p = Option.none ∧ H p ≠ Option.none) ∧ (M1 ++ M2).Nodup ∧ EnvOk W (era H (W.M0 ++ (M1 ++ M2))) H env σ M1 ∧ EnvOk W (era H (W.M0 ++ (M1 ++ M2))) H stk vs M2

theorem Wd.hidH {W : Wo} {n : Nat} {env stk : List E} {σ : St} {vs : St} {H : Hp} (w : Wd W n env σ stk vs H) : ∀ p ∈ W.M0, H p ≠ Option.none := fun p hp => by
  by_cases e : W.P = some p
  · exact (w.pot p e).2.there
  · cases q : W.H0 p with
    | none => exact absurd q (w.hid p hp)
    | some o => rw [w.keep p o e q]; exact fun z => by cases z

section
variable {W : Wo} {n m : Nat} {env stk : List E} {σ : St} {ds : List D} {vs : St} {us : List V} {H H' : Hp} {d x y : D} {v vx vy : V}

/-- nothing that stood has changed -/
theorem Wd.mono (w : Wd W n env σ stk vs H) (e : Same H H') : Wd W n env σ stk vs H' := by
  obtain ⟨k, h, p, M1, M2, a, nd, b, c⟩ := w
  refine ⟨fun b o n q => e _ _ (k b o n q), h, fun q hq => ⟨(p q hq).1, (p q hq).2.mono e⟩, M1, M2, fun q hq => ⟨(a q hq).1, fun z => ?_⟩, nd, b.mono (era_mono _ e) e, c.mono (era_mono _ e) e⟩
  cases r : H q with
  | none => exact (a q hq).2 r
  | some o => rw [e _ _ r] at z; cases z
theorem Wd.le (w : Wd W n env σ stk vs H) (l : n ≤ m) : Wd W m env σ stk vs H :=
  ⟨w.keep, w.hid, fun p hp => ⟨(w.pot p hp).1, (w.pot p hp).2.le l⟩, w.rest⟩
/-- the data on the stack, turned as any view shows it -/
theorem Wd.restk (w : Wd W n env σ (ds.map E.d ++ stk) (us.map some ++ vs) H) (l : us.length = ds.length) {ds' : List D} {us' : List V} (f : ∀ U : Hp, Same U H → RpL W.K U us ds → RpL W.K U us' ds') : Wd W n env σ (ds'.map E.d ++ stk) (us'.map some ++ vs) H := by
  obtain ⟨k, h, p, M1, M2, a, nd, b, c⟩ := w
  obtain ⟨c1, c2⟩ := EnvOk.toL l c
  exact ⟨k, h, p, M1, M2, a, nd, b, EnvOk.ofL (f _ (era_sub _ _) c1) c2⟩
theorem Wd.push (w : Wd W n env σ stk vs H) (f : ∀ U : Hp, Same U H → Rp W.K U v d) : Wd W n env σ (.d d :: stk) (some v :: vs) H :=
  Wd.restk (ds := []) (us := []) (ds' := [d]) (us' := [v]) w rfl fun U s _ => .cons (f U s) .nil
theorem Wd.pop (w : Wd W n env σ (.d d :: stk) (some v :: vs) H) : Wd W n env σ stk vs H :=
  Wd.restk (ds := [d]) (us := [v]) (ds' := []) (us' := []) w rfl fun U s _ => .nil
theorem Wd.pops (w : Wd W n env σ (ds.map E.d ++ stk) (us.map some ++ vs) H) (l : us.length = ds.length) : Wd W n env σ stk vs H :=
  Wd.restk (ds' := []) (us' := []) w l fun U s _ => .nil
theorem Wd.sees (w : Wd W n env σ (ds.map E.d ++ stk) (us.map some ++ vs) H) (l : us.length = ds.length) : RpL W.K H us ds := by
  obtain ⟨k, h, p, M1, M2, a, nd, b, c⟩ := w
  exact (EnvOk.toL l c).1.mono (era_sub _ _)
theorem Wd.top (w : Wd W n env σ (.d d :: stk) (some v :: vs) H) : Rp W.K H v d := by
  have h := Wd.sees (ds := [d]) (us := [v]) w rfl
  cases h with
  | cons h _ => exact h
/-- a new object onto the stack, its parts on the stack -/
theorem Wd.new (w : Wd W n env σ (ds.map E.d ++ stk) (us.map some ++ vs) H) (l : us.length = ds.length) {p : Addr} {o : HO} (hp : H p = Option.none) (f : ∀ U : Hp, U p = some o → RpL W.K U us ds → Rp W.K U (.ref p) d) :
    Wd W n env σ (.d d :: stk) (some (.ref p) :: vs) (upd H p o) := by
  have hid := w.hidH
  obtain ⟨k, h, pp, M1, M2, a, nd, b, c⟩ := w
  have e : Same H (upd H p o) := same_new hp
  refine ⟨fun b o n q => e _ _ (k b o n q), h, fun q hq => ⟨(pp q hq).1, (pp q hq).2.mono e⟩, M1, M2, fun q hq => ⟨(a q hq).1, fun z => ?_⟩, nd, b.mono (era_mono _ e) e, ?_⟩
  · cases r : H q with
    | none => exact (a q hq).2 r
    | some o => rw [e _ _ r] at z; cases z
  · obtain ⟨c1, c2⟩ := EnvOk.toL l (c.mono (era_mono _ e) e)
    refine ⟨⟨_, rfl, f _ (era_of upd_same fun z => ?_) c1⟩, c2⟩
    rcases List.mem_append.mp z with z | z
    · exact hid p z hp
    · exact (a p z).2 hp
theorem Wd.swap (l : us.length = ds.length) (w : Wd W n env σ (ds.map E.d ++ (.d d :: stk)) (us.map some ++ (some v :: vs)) H) : Wd W n env σ ((d :: ds).map E.d ++ stk) ((v :: us).map some ++ vs) H := by
  have w2 : Wd W n env σ ((ds ++ [d]).map E.d ++ stk) ((us ++ [v]).map some ++ vs) H := by
    have e1 : (ds ++ [d]).map E.d ++ stk = ds.map E.d ++ (.d d :: stk) := by simp
    have e2 : (us ++ [v]).map some ++ vs = us.map some ++ (some v :: vs) := by simp
    rw [e1, e2]; exact w
  refine w2.restk (by simp [l]) fun U _ r => ?_
  obtain ⟨r1, r2⟩ := RpL.split l r
  cases r2 with
  | cons r2 _ => exact .cons r2 r1

/-! ## what is to be shown of a reading -/
def Wp (W : Wo) (t : TE) (n : Nat) (env : List E) (Φ : D → Nat → Prop) : Prop := ∀ σ stk vs H (Q : VK), Wd W n env σ stk vs H →
  (∀ v d n' H', Φ d n' → Wd W n' env σ (.d d :: stk) (some v :: vs) H' → Q v H') → t σ H Q
def WpT (W : Wo) (t : TT) (n : Nat) (env : List E) (Φ : Bool → Nat → Prop) : Prop := ∀ σ stk vs H (Q : Bool → Hp → Prop), Wd W n env σ stk vs H →
  (∀ b n' H', Φ b n' → Wd W n' env σ stk vs H' → Q b H') → t σ H Q
def WpA (W : Wo) (t : TA) (n : Nat) (env : List E) (Φ : List D → Nat → Prop) : Prop := ∀ σ stk vs H (Q : List V → Hp → Prop), Wd W n env σ stk vs H →
  (∀ us ds n' H', Φ ds n' → us.length = ds.length → Wd W n' env σ (ds.map E.d ++ stk) (us.map some ++ vs) H' → Q us H') → t σ H Q
def WpO (W : Wo) (t : TO) (n : Nat) (env : List E) (Φ : Option Int → Nat → Prop) : Prop := ∀ σ stk vs H (Q : Option Int → Hp → Prop), Wd W n env σ stk vs H →
  (∀ o n' H', Φ o n' → Wd W n' env σ stk vs H' → Q o H') → t σ H Q
/-- a two-place operation on values -/
def Op2 (W : Wo) (r : R2) (n : Nat) (x y : D) (Φ : D → Nat → Prop) : Prop := ∀ env σ stk vs vx vy H (Q : VK), Wd W n env σ (.d y :: .d x :: stk) (some vy :: some vx :: vs) H →
  (∀ v d n' H', Φ d n' → Wd W n' env σ (.d d :: stk) (some v :: vs) H' → Q v H') → r vx vy H Q
def Op1 (W : Wo) (r : V → Hp → VK → Prop) (n : Nat) (x : D) (Φ : D → Nat → Prop) : Prop := ∀ env σ stk vs vx H (Q : VK), Wd W n env σ (.d x :: stk) (some vx :: vs) H →
  (∀ v d n' H', Φ d n' → Wd W n' env σ (.d d :: stk) (some v :: vs) H' → Q v H') → r vx H Q
/-- a built-in on a list of values -/
def OpN (W : Wo) (r : List V → Hp → VK → Prop) (n : Nat) (ds : List D) (Φ : D → Nat → Prop) : Prop := ∀ env σ stk vs us H (Q : VK), us.length = ds.length → Wd W n env σ (ds.map E.d ++ stk) (us.map some ++ vs) H →
  (∀ v d n' H', Φ d n' → Wd W n' env σ (.d d :: stk) (some v :: vs) H' → Q v H') → r us H Q

section
variable {ta tb te tx : TE} {tt tu : TT} {tas : TA} {r : R2} {Φ : D → Nat → Prop} {i : Nat}
theorem Wp.mono {Ψ : D → Nat → Prop} (h : Wp W te n env Φ) (f : ∀ d n, Φ d n → Ψ d n) : Wp W te n env Ψ := fun σ stk vs H Q w q => h σ stk vs H Q w fun v d n' H' p => q v d n' H' (f _ _ p)
theorem wp_var (h : env[i]? = some (.d x)) (q : Φ x n) : Wp W (tVar i) n env Φ := fun σ stk vs H Q w k => by
  obtain ⟨kk, hh, pp, M1, M2, a, nd, b, c⟩ := w
  obtain ⟨v, e, r⟩ := b.getD h
  exact ⟨v, e, k v x n H q ⟨kk, hh, pp, M1, M2, a, nd, b, ⟨_, rfl, r⟩, c⟩⟩
theorem wp_c (h : ∀ K U, Rp K U v d) (q : Φ d n) : Wp W (tC v) n env Φ := fun σ stk vs H Q w k =>
  k v d n H q (w.push fun U _ => h _ U)
theorem wp_ci {i : Int} (q : Φ (.int i) n) : Wp W (tC (.int i)) n env Φ := wp_c (fun _ _ => .int i) q
theorem wp_cs {x : Str} (q : Φ (.str x) n) : Wp W (tC (.str x)) n env Φ := wp_c (fun _ _ => .str x) q
theorem wp_cb {b : Bool} (q : Φ (.bl b) n) : Wp W (tC (.bl b)) n env Φ := wp_c (fun _ _ => .bl b) q
theorem wp_ct {x : String} (q : Φ (.ty x) n) : Wp W (tC (.ty x)) n env Φ := wp_c (fun _ _ => .ty x) q
theorem wp_cn (q : Φ .non n) : Wp W (tC .non) n env Φ := wp_c (fun _ _ => .non) q
theorem wpA_nil {Φ : List D → Nat → Prop} (q : Φ [] n) : WpA W tNil n env Φ := fun σ stk vs H Q w k => k [] [] n H q rfl w
theorem wpA_cons {Φ : List D → Nat → Prop} (q : Wp W te n env fun d n1 => WpA W tas n1 env fun ds n2 => Φ (d :: ds) n2) : WpA W (tCons te tas) n env Φ := fun σ stk vs H Q w k =>
  q σ stk vs H _ w fun v d n1 H1 q1 w1 => q1 σ (.d d :: stk) (some v :: vs) H1 _ w1 fun us ds n2 H2 q2 l w2 => k (v :: us) (d :: ds) n2 H2 q2 (by simp [l]) (Wd.swap l w2)
theorem wp_tup (q : WpA W tas n env fun ds n' => ds.length ≤ sizeLine ∧ Φ (.tup ds) n') : Wp W (tTupP tas) n env Φ := fun σ stk vs H Q w k =>
  q σ stk vs H _ w fun us ds n' H' q' l w' => ⟨by rw [l]; exact q'.1, fun p o hp hd => k _ _ n' _ q'.2 (w'.new l hp fun U hu r => .tup ⟨o, hu, hd⟩ r)⟩
theorem wp_lst (q : WpA W tas n env fun ds n' => ds.length ≤ sizeLine ∧ Φ (.lst ds) n') : Wp W (tLst tas) n env Φ := fun σ stk vs H Q w k =>
  q σ stk vs H _ w fun us ds n' H' q' l w' => ⟨by rw [l]; exact q'.1, fun p hp => k _ _ n' _ q'.2 (w'.new l hp fun U hu r => .lst hu r)⟩
theorem wp_op (q : Wp W ta n env fun x n1 => Wp W tb n1 env fun y n2 => Op2 W r n2 x y Φ) : Wp W (tOp r ta tb) n env Φ := fun σ stk vs H Q w k =>
  q σ stk vs H _ w fun vx x n1 H1 q1 w1 => q1 σ _ _ H1 _ w1 fun vy y n2 H2 q2 w2 => q2 env σ stk vs vx vy H2 Q w2 k
theorem wp_un {r : V → Hp → VK → Prop} (q : Wp W ta n env fun x n1 => Op1 W r n1 x Φ) : Wp W (tUn r ta) n env Φ := fun σ stk vs H Q w k =>
  q σ stk vs H _ w fun vx x n1 H1 q1 w1 => q1 env σ stk vs vx H1 Q w1 k
theorem wp_cb2 {r : List V → Hp → VK → Prop} (q : WpA W tas n env fun ds n1 => OpN W r n1 ds Φ) : Wp W (tCB r tas) n env Φ := fun σ stk vs H Q w k =>
  q σ stk vs H _ w fun us ds n1 H1 q1 l w1 => q1 env σ stk vs us H1 Q l w1 k
theorem wp_if (q : WpT W tt n env fun b n1 => if b = true then Wp W ta n1 env Φ else Wp W tb n1 env Φ) : Wp W (tIf tt ta tb) n env Φ := fun σ stk vs H Q w k =>
  q σ stk vs H _ w fun b n1 H1 q1 w1 => by
    cases b with
    | true => exact q1 σ stk vs H1 Q w1 k
    | false => exact q1 σ stk vs H1 Q w1 k
theorem wp_andV (q : Wp W ta n env fun x n1 => ∃ c, x = .bl c ∧ if c = true then Wp W tb n1 env Φ else Φ (.bl false) n1) : Wp W (tAndV ta tb) n env Φ := fun σ stk vs H Q w k =>
  q σ stk vs H _ w fun v d n1 H1 q1 w1 => by
    obtain ⟨c, rfl, q1⟩ := q1
    have t := w1.top
    cases t
    refine ⟨c, rfl, ?_⟩
    cases c with
    | true => exact q1 σ stk vs H1 Q w1.pop k
    | false => exact k _ _ n1 H1 q1 w1
theorem wp_orV (q : Wp W ta n env fun x n1 => ∃ c, x = .bl c ∧ if c = true then Φ (.bl true) n1 else Wp W tb n1 env Φ) : Wp W (tOrV ta tb) n env Φ := fun σ stk vs H Q w k =>
  q σ stk vs H _ w fun v d n1 H1 q1 w1 => by
    obtain ⟨c, rfl, q1⟩ := q1
    have t := w1.top
    cases t
    refine ⟨c, rfl, ?_⟩
    cases c with
    | true => exact k _ _ n1 H1 q1 w1
    | false => exact q1 σ stk vs H1 Q w1.pop k
theorem wp_notV (q : Wp W ta n env fun x n1 => ∃ c, x = .bl c ∧ Φ (.bl (!c)) n1) : Wp W (tNotV ta) n env Φ := fun σ stk vs H Q w k =>
  q σ stk vs H _ w fun v d n1 H1 q1 w1 => by
    obtain ⟨c, rfl, q1⟩ := q1
    have t := w1.top
    cases t
    exact ⟨c, rfl, k _ _ n1 H1 q1 (w1.pop.push fun U _ => .bl _)⟩
theorem wpT_B {Φ : Bool → Nat → Prop} (q : Wp W te n env fun x n1 => ∃ c, x = .bl c ∧ Φ c n1) : WpT W (tB te) n env Φ := fun σ stk vs H Q w k =>
  q σ stk vs H _ w fun v d n1 H1 q1 w1 => by
    obtain ⟨c, rfl, q1⟩ := q1
    have t := w1.top
    cases t
    exact ⟨c, rfl, k c n1 H1 q1 w1.pop⟩
theorem wpT_test {Φ : Bool → Nat → Prop} (q : Wp W te n env fun x n1 => ∃ c, x = .bl c ∧ Φ c n1) : WpT W (tTest te) n env Φ := wpT_B q
theorem wpT_and {Φ : Bool → Nat → Prop} (q : WpT W tt n env fun b n1 => if b = true then WpT W tu n1 env Φ else Φ false n1) : WpT W (tAnd tt tu) n env Φ := fun σ stk vs H Q w k =>
  q σ stk vs H _ w fun b n1 H1 q1 w1 => by
    cases b with
    | true => exact q1 σ stk vs H1 Q w1 k
    | false => exact k _ n1 H1 q1 w1
theorem wpT_or {Φ : Bool → Nat → Prop} (q : WpT W tt n env fun b n1 => if b = true then Φ true n1 else WpT W tu n1 env Φ) : WpT W (tOr tt tu) n env Φ := fun σ stk vs H Q w k =>
  q σ stk vs H _ w fun b n1 H1 q1 w1 => by
    cases b with
    | true => exact k _ n1 H1 q1 w1
    | false => exact q1 σ stk vs H1 Q w1 k
theorem wpT_not {Φ : Bool → Nat → Prop} (q : WpT W tt n env fun b n1 => Φ (!b) n1) : WpT W (tNot tt) n env Φ := fun σ stk vs H Q w k =>
  q σ stk vs H _ w fun b n1 H1 q1 w1 => k _ n1 H1 q1 w1
theorem wpT_yes {Φ : Bool → Nat → Prop} (q : Φ true n) : WpT W tYes n env Φ := fun σ stk vs H Q w k => k _ n H q w
theorem wp_chain {r r' : R2} {tc : TE} (q : Wp W ta n env fun x n1 => Wp W tb n1 env fun y n2 => Op2 W r n2 x y fun z n3 => ∃ c, z = .bl c ∧ if c = true then Wp W tc n3 env (fun e n4 => Op2 W r' n4 y e Φ) else Φ (.bl false) n3) :
    Wp W (tChain r r' ta tb tc) n env Φ := fun σ stk vs H Q w k =>
  q σ stk vs H _ w fun vx x n1 H1 q1 w1 => q1 σ _ _ H1 _ w1 fun vy y n2 H2 q2 w2 => q2 env σ (.d y :: stk) (some vy :: vs) vx vy H2 _ (Wd.restk (ds := [y, x]) (us := [vy, vx]) (ds' := [y, x, y]) (us' := [vy, vx, vy]) w2 rfl fun U _ r => by
    cases r with
    | cons r1 r2 =>
      cases r2 with
      | cons r2 r3 => exact .cons r1 (.cons r2 (.cons r1 .nil))) fun vz z n3 H3 q3 w3 => by
    obtain ⟨c, rfl, q3⟩ := q3
    have t := w3.top
    cases t
    refine ⟨c, rfl, ?_⟩
    cases c with
    | true => exact q3 σ _ _ H3 _ w3.pop fun ve e n4 H4 q4 w4 => q4 env σ stk vs vy ve H4 Q w4 k
    | false => exact k _ _ n3 H3 q3 (w3.pop.pop.push fun U _ => .bl _)
theorem wpO_none {Φ : Option Int → Nat → Prop} (q : Φ Option.none n) : WpO W tNoPart n env Φ := fun σ stk vs H Q w k => k _ n H q w
theorem wpO_some {Φ : Option Int → Nat → Prop} (q : Wp W te n env fun x n1 => ∃ i, x = .int i ∧ Φ (some i) n1) : WpO W (tPart te) n env Φ := fun σ stk vs H Q w k =>
  q σ stk vs H _ w fun v d n1 H1 q1 w1 => by
    obtain ⟨i, rfl, q1⟩ := q1
    have t := w1.top
    cases t
    exact ⟨i, rfl, k _ n1 H1 q1 w1.pop⟩

/-! ### operations whose answer hangs on no heap -/
theorem op2_pure {v : V} {d : D} (hr : ∀ vx vy H (Q : VK), Rp W.K H vx x → Rp W.K H vy y → Q v H → r vx vy H Q) (hd : ∀ K U, Rp K U v d) (q : Φ d n) : Op2 W r n x y Φ := fun env σ stk vs vx vy H Q w k => by
  exact hr vx vy H Q w.pop.top w.top (k _ _ n H q (w.pop.pop.push fun U _ => hd _ U))
theorem op2_i {g : Int → Int → V} {i j : Int} (hd : ∀ K U, Rp K U (g i j) d) (q : Φ d n) : Op2 W (rI0 g) n (.int i) (.int j) Φ := op2_pure (fun vx vy H Q h1 h2 k => by
  cases h1; cases h2; exact ⟨i, j, rfl, rfl, k⟩) hd q
theorem op2_ic {g : Int → Int → V} {C : Int → Int → Prop} {i j : Int} (hc : C i j) (hd : ∀ K U, Rp K U (g i j) d) (q : Φ d n) : Op2 W (rI C g) n (.int i) (.int j) Φ := op2_pure (fun vx vy H Q h1 h2 k => by
  cases h1; cases h2; exact ⟨i, j, rfl, rfl, hc, k⟩) hd q
end
end
end FR
namespace FR
open PySem L2
variable [TheW]

/-! ## changes of what is held -/
theorem EnvOk.mono2 {W : Wo} {U U' H H' : Hp} (eu : Same U U') : ∀ {env : List E} {σ : St} {M : List Addr}, (∀ p ∈ M, ∀ o, H p = some o → H' p = some o) → EnvOk W U H env σ M → EnvOk W U' H' env σ M
  | [], [], [], _, _ => trivial
  | [], [], _ :: _, _, h => h.elim
  | [], _ :: _, _, _, h => h.elim
  | .any :: es, [], _, _, h => h.elim
  | .any :: es, _ :: σ, M, eh, h => EnvOk.mono2 (env := es) (σ := σ) eu eh h
  | .d x :: es, [], _, _, h => h.elim
  | .d x :: es, o :: σ, M, eh, h => ⟨by obtain ⟨v, e, r⟩ := h.1; exact ⟨v, e, r.mono eu⟩, EnvOk.mono2 (env := es) (σ := σ) eu eh h.2⟩
  | .own xs :: es, [], _, _, h => h.elim
  | .own xs :: es, _ :: _, [], _, h => h.elim
  | .own xs :: es, o :: σ, p :: M, eh, h => ⟨by obtain ⟨vs, e, q, r⟩ := h.1; exact ⟨vs, e, eh p List.mem_cons_self _ q, r.mono eu⟩, EnvOk.mono2 (env := es) (σ := σ) eu (fun q hq => eh q (List.mem_cons_of_mem _ hq)) h.2⟩
  | .pot :: es, [], _, _, h => h.elim
  | .pot :: es, o :: σ, M, eh, h => ⟨h.1, EnvOk.mono2 (env := es) (σ := σ) eu eh h.2⟩

def hideE : E → E
  | .own _ => .any
  | e => e
theorem EnvOk.hide {W : Wo} {U H : Hp} : ∀ {env : List E} {σ : St} {M : List Addr}, EnvOk W U H env σ M → EnvOk W U H (env.map hideE) σ []
  | [], [], [], _ => trivial
  | [], [], _ :: _, h => h.elim
  | [], _ :: _, _, h => h.elim
  | .any :: es, [], _, h => h.elim
  | .any :: es, _ :: σ, M, h => EnvOk.hide (env := es) (σ := σ) (M := M) h
  | .d x :: es, [], _, h => h.elim
  | .d x :: es, o :: σ, M, h => ⟨h.1, EnvOk.hide (env := es) (σ := σ) (M := M) h.2⟩
  | .own xs :: es, [], _, h => h.elim
  | .own xs :: es, _ :: _, [], h => h.elim
  | .own xs :: es, o :: σ, p :: M, h => EnvOk.hide (env := es) (σ := σ) (M := M) h.2
  | .pot :: es, [], _, h => h.elim
  | .pot :: es, o :: σ, M, h => ⟨h.1, EnvOk.hide (env := es) (σ := σ) (M := M) h.2⟩
theorem EnvOk.app {W : Wo} {U H : Hp} : ∀ {env : List E} {σ : St} {M : List Addr} {env' : List E} {σ' : St} {M' : List Addr}, EnvOk W U H env σ M → EnvOk W U H env' σ' M' → EnvOk W U H (env ++ env') (σ ++ σ') (M ++ M')
  | [], [], [], _, _, _, _, h => h
  | [], [], _ :: _, _, _, _, h, _ => h.elim
  | [], _ :: _, _, _, _, _, h, _ => h.elim
  | .any :: es, [], _, _, _, _, h, _ => h.elim
  | .any :: es, _ :: σ, M, _, _, _, h, h' => EnvOk.app (env := es) (σ := σ) (M := M) h h'
  | .d x :: es, [], _, _, _, _, h, _ => h.elim
  | .d x :: es, o :: σ, M, _, _, _, h, h' => ⟨h.1, EnvOk.app (env := es) (σ := σ) (M := M) h.2 h'⟩
  | .own xs :: es, [], _, _, _, _, h, _ => h.elim
  | .own xs :: es, _ :: _, [], _, _, _, h, _ => h.elim
  | .own xs :: es, o :: σ, p :: M, _, _, _, h, h' => ⟨h.1, EnvOk.app (env := es) (σ := σ) (M := M) h.2 h'⟩
  | .pot :: es, [], _, _, _, _, h, _ => h.elim
  | .pot :: es, o :: σ, M, _, _, _, h, h' => ⟨h.1, EnvOk.app (env := es) (σ := σ) (M := M) h.2 h'⟩
theorem EnvOk.cut {W : Wo} {U H : Hp} : ∀ {env : List E} {σ : St} {env' : List E} {σ' : St} {M : List Addr}, σ.length = env.length → EnvOk W U H (env ++ env') (σ ++ σ') M → ∃ Ma Mb, M = Ma ++ Mb ∧ EnvOk W U H env σ Ma ∧ EnvOk W U H env' σ' Mb
  | [], [], _, _, M, _, h => ⟨[], M, rfl, trivial, h⟩
  | [], _ :: _, _, _, _, l, _ => by simp at l
  | _ :: _, [], _, _, _, l, _ => by simp at l
  | .any :: es, o :: σ, env', σ', M, l, h => by
    obtain ⟨a, b, e, h1, h2⟩ := EnvOk.cut (env := es) (σ := σ) (env' := env') (σ' := σ') (M := M) (by simpa using l) h
    exact ⟨a, b, e, h1, h2⟩
  | .d x :: es, o :: σ, env', σ', M, l, h => by
    obtain ⟨a, b, e, h1, h2⟩ := EnvOk.cut (env := es) (σ := σ) (env' := env') (σ' := σ') (M := M) (by simpa using l) h.2
    exact ⟨a, b, e, ⟨h.1, h1⟩, h2⟩
  | .own xs :: es, o :: σ, env', σ', [], l, h => h.elim
  | .own xs :: es, o :: σ, env', σ', p :: M, l, h => by
    obtain ⟨a, b, e, h1, h2⟩ := EnvOk.cut (env := es) (σ := σ) (env' := env') (σ' := σ') (M := M) (by simpa using l) h.2
    exact ⟨p :: a, b, by rw [e]; rfl, ⟨h.1, h1⟩, h2⟩
  | .pot :: es, o :: σ, env', σ', M, l, h => by
    obtain ⟨a, b, e, h1, h2⟩ := EnvOk.cut (env := es) (σ := σ) (env' := env') (σ' := σ') (M := M) (by simpa using l) h.2
    exact ⟨a, b, e, ⟨h.1, h1⟩, h2⟩
/-- a slot filled anew: what it owned is let go -/
theorem EnvOk.put {W : Wo} {U H : Hp} {e : E} {o : Option V} (he : (∃ x v, e = .d x ∧ o = some v ∧ Rp W.K U v x) ∨ e = .any) : ∀ {env : List E} {σ : St} {M : List Addr} (i : Nat), EnvOk W U H env σ M → ∃ M', M'.Sublist M ∧ EnvOk W U H (env.set i e) (σ.set i o) M'
  | [], [], [], _, _ => ⟨[], .refl _, trivial⟩
  | [], [], _ :: _, _, h => h.elim
  | [], _ :: _, _, _, h => h.elim
  | .any :: es, [], _, _, h => h.elim
  | .any :: es, a :: σ, M, 0, h => ⟨M, .refl _, by
      rcases he with ⟨x, v, rfl, rfl, r⟩ | rfl
      · exact ⟨⟨v, rfl, r⟩, h⟩
      · exact h⟩
  | .any :: es, a :: σ, M, i + 1, h => by
    obtain ⟨M', s, q⟩ := EnvOk.put he (env := es) (σ := σ) (M := M) i h
    exact ⟨M', s, q⟩
  | .d x :: es, [], _, _, h => h.elim
  | .d x :: es, a :: σ, M, 0, h => ⟨M, .refl _, by
      rcases he with ⟨x, v, rfl, rfl, r⟩ | rfl
      · exact ⟨⟨v, rfl, r⟩, h.2⟩
      · exact h.2⟩
  | .d x :: es, a :: σ, M, i + 1, h => by
    obtain ⟨M', s, q⟩ := EnvOk.put he (env := es) (σ := σ) (M := M) i h.2
    exact ⟨M', s, h.1, q⟩
  | .own xs :: es, [], _, _, h => h.elim
  | .own xs :: es, _ :: _, [], _, h => h.elim
  | .own xs :: es, a :: σ, p :: M, 0, h => ⟨M, .cons _ (.refl _), by
      rcases he with ⟨x, v, rfl, rfl, r⟩ | rfl
      · exact ⟨⟨v, rfl, r⟩, h.2⟩
      · exact h.2⟩
  | .own xs :: es, a :: σ, p :: M, i + 1, h => by
    obtain ⟨M', s, q⟩ := EnvOk.put he (env := es) (σ := σ) (M := M) i h.2
    exact ⟨p :: M', .cons₂ _ s, h.1, q⟩
  | .pot :: es, [], _, _, h => h.elim
  | .pot :: es, a :: σ, M, 0, h => ⟨M, .refl _, by
      rcases he with ⟨x, v, rfl, rfl, r⟩ | rfl
      · exact ⟨⟨v, rfl, r⟩, h.2⟩
      · exact h.2⟩
  | .pot :: es, a :: σ, M, i + 1, h => by
    obtain ⟨M', s, q⟩ := EnvOk.put he (env := es) (σ := σ) (M := M) i h.2
    exact ⟨M', s, h.1, q⟩
/-- an owned list in a slot -/
theorem EnvOk.owned {W : Wo} {U H : Hp} {xs : D} : ∀ {env : List E} {σ : St} {M : List Addr} {i : Nat}, EnvOk W U H env σ M → env[i]? = some (.own xs) → ∃ p Ma Mb vs, M = Ma ++ p :: Mb ∧ σ[i]? = some (some (.ref p)) ∧ H p = some vs ∧ OwR W.K U p vs xs ∧
      (∀ (U' H' : Hp) ys ws, Same U U' → (∀ q ∈ Ma ++ Mb, ∀ o, H q = some o → H' q = some o) → H' p = some ws → OwR W.K U' p ws ys → EnvOk W U' H' (env.set i (.own ys)) σ M) ∧
      (∀ (U' : Hp) x, Same U U' → Rp W.K U' (.ref p) x → EnvOk W U' H (env.set i (.d x)) σ (Ma ++ Mb))
  | [], _, _, _, _, h => by simp at h
  | .any :: es, [], _, _, h, _ => h.elim
  | .any :: es, _ :: σ, M, 0, h, e => by simp at e
  | .any :: es, _ :: σ, M, i + 1, h, e => by
    obtain ⟨p, Ma, Mb, vs, e1, e2, e3, e4, f, g⟩ := EnvOk.owned (env := es) (σ := σ) (M := M) (i := i) h (by simpa using e)
    exact ⟨p, Ma, Mb, vs, e1, by simpa using e2, e3, e4, fun U' H' ys ws a b c d => f U' H' ys ws a b c d, fun U' x a b => g U' x a b⟩
  | .d _ :: es, [], _, _, h, _ => h.elim
  | .d y :: es, o :: σ, M, 0, h, e => by simp at e
  | .d y :: es, o :: σ, M, i + 1, h, e => by
    obtain ⟨p, Ma, Mb, vs, e1, e2, e3, e4, f, g⟩ := EnvOk.owned (env := es) (σ := σ) (M := M) (i := i) h.2 (by simpa using e)
    refine ⟨p, Ma, Mb, vs, e1, by simpa using e2, e3, e4, fun U' H' ys ws a b c d => ⟨?_, f U' H' ys ws a b c d⟩, fun U' x a b => ⟨?_, g U' x a b⟩⟩
    all_goals (obtain ⟨v, e, r⟩ := h.1; exact ⟨v, e, r.mono a⟩)
  | .own zs :: es, [], _, _, h, _ => h.elim
  | .own zs :: es, _ :: _, [], _, h, _ => h.elim
  | .own zs :: es, o :: σ, p :: M, 0, h, e => by
    simp at e; subst e
    obtain ⟨vs, e1, e2, e3⟩ := h.1
    refine ⟨p, [], M, vs, rfl, by simp [e1], e2, e3, fun U' H' ys ws a b c d => ⟨⟨ws, e1, c, d⟩, EnvOk.mono2 a (fun q hq => b q (by simpa using hq)) h.2⟩, fun U' x a b => ⟨⟨_, e1, b⟩, EnvOk.mono2 a (fun q hq o z => z) h.2⟩⟩
  | .own zs :: es, o :: σ, p :: M, i + 1, h, e => by
    obtain ⟨q, Ma, Mb, vs, e1, e2, e3, e4, f, g⟩ := EnvOk.owned (env := es) (σ := σ) (M := M) (i := i) h.2 (by simpa using e)
    obtain ⟨vz, z1, z2, z3⟩ := h.1
    refine ⟨q, p :: Ma, Mb, vs, by rw [e1]; rfl, by simpa using e2, e3, e4, fun U' H' ys ws a b c d => ⟨⟨vz, z1, b p (by simp) _ z2, z3.mono a⟩, f U' H' ys ws a (fun q hq => b q (by simp at hq ⊢; exact .inr hq)) c d⟩, fun U' x a b => ⟨⟨vz, z1, z2, z3.mono a⟩, g U' x a b⟩⟩
  | .pot :: es, [], _, _, h, _ => h.elim
  | .pot :: es, o :: σ, M, 0, h, e => by simp at e
  | .pot :: es, o :: σ, M, i + 1, h, e => by
    obtain ⟨p, Ma, Mb, vs, e1, e2, e3, e4, f, g⟩ := EnvOk.owned (env := es) (σ := σ) (M := M) (i := i) h.2 (by simpa using e)
    exact ⟨p, Ma, Mb, vs, e1, by simpa using e2, e3, e4, fun U' H' ys ws a b c d => ⟨h.1, f U' H' ys ws a b c d⟩, fun U' x a b => ⟨h.1, g U' x a b⟩⟩

def wipeE (env : List E) : List Nat → List E
  | [] => env
  | v :: vs => (wipeE env vs).set v .any
theorem EnvOk.wipe {W : Wo} {U H : Hp} {env : List E} {σ : St} (h : EnvOk W U H env σ []) : ∀ sl : List Nat, EnvOk W U H (wipeE env sl) (L2.wipe σ sl) []
  | [] => h
  | v :: vs => by
    obtain ⟨M', s, q⟩ := EnvOk.put (e := .any) (o := Option.none) (.inr rfl) v (EnvOk.wipe h vs)
    have e : M' = [] := by cases s; rfl
    rw [e] at q
    exact q
theorem wipe_get {σ : St} {j : Nat} : ∀ {sl : List Nat}, (L2.wipe σ sl)[j]? = if j ∈ sl then (if j < σ.length then some Option.none else Option.none) else σ[j]?
  | [] => by simp [L2.wipe]
  | v :: vs => by
    unfold L2.wipe
    rw [List.getElem?_set]
    by_cases e : v = j
    · subst e
      simp [wipe_length]
    · rw [if_neg e, wipe_get (sl := vs)]
      have : (j = v ∨ j ∈ vs) ↔ j ∈ vs := by constructor; (rintro (h | h); exact absurd h.symm e; exact h); exact .inr
      simp only [List.mem_cons, this]
theorem wipe_put {σ : St} {i : Nat} {o : Option V} {sl : List Nat} (h : i ∈ sl) : L2.wipe (σ.set i o) sl = L2.wipe σ sl := by
  apply List.ext_getElem?
  intro j
  rw [wipe_get, wipe_get, List.length_set]
  by_cases e : j ∈ sl
  · rw [if_pos e, if_pos e]
  · rw [if_neg e, if_neg e, List.getElem?_set_ne]
    rintro rfl
    exact e h
theorem wipe_twice {σ : St} {sl : List Nat} : L2.wipe (L2.wipe σ sl) sl = L2.wipe σ sl := by
  apply List.ext_getElem?
  intro j
  rw [wipe_get, wipe_get, wipe_length]
  by_cases e : j ∈ sl
  · rw [if_pos e, if_pos e]
  · simp only [if_neg e]

section
variable {W : Wo} {n m : Nat} {env stk : List E} {σ : St} {ds : List D} {vs : St} {us : List V} {H H' : Hp} {d x y : D} {v vx vy : V} {i : Nat}

theorem Wd.set (i : Nat) (w : Wd W n env σ (.d x :: stk) (some v :: vs) H) : Wd W n (env.set i (.d x)) (σ.set i (some v)) stk vs H := by
  obtain ⟨k, h, pp, M1, M2, a, nd, b, c⟩ := w
  obtain ⟨⟨u, e, r⟩, c⟩ := c
  cases e
  obtain ⟨M', s, q⟩ := EnvOk.put (.inl ⟨x, v, rfl, rfl, r⟩) i b
  have sub : ∀ p ∈ M' ++ M2, p ∈ M1 ++ M2 := fun p hp => by
    rcases List.mem_append.mp hp with z | z
    · exact List.mem_append_left _ (s.subset z)
    · exact List.mem_append_right _ z
  have es : Same (era H (W.M0 ++ (M1 ++ M2))) (era H (W.M0 ++ (M' ++ M2))) := era_less fun b hb => by
    rcases List.mem_append.mp hb with z | z
    · exact List.mem_append_left _ z
    · exact List.mem_append_right _ (sub b z)
  exact ⟨k, h, pp, M', M2, fun p hp => a p (sub p hp), (s.append (.refl M2)).nodup nd, q.mono es (Same.refl _), c.mono es (Same.refl _)⟩
theorem Wd.save (sl : List Nat) (w : Wd W n env σ (.d x :: stk) (some v :: vs) H) : Wd W n (wipeE (env.map hideE) sl) (L2.wipe σ sl) (.d x :: (env ++ stk)) (some v :: (σ ++ vs)) H := by
  obtain ⟨k, h, pp, M1, M2, a, nd, b, c⟩ := w
  exact ⟨k, h, pp, [], M1 ++ M2, a, nd, (EnvOk.hide b).wipe sl, c.1, EnvOk.app b c.2⟩
theorem Wd.back {env' : List E} {σ' : St} (l : σ.length = env.length) (w : Wd W n env' σ' (.d x :: (env ++ stk)) (some v :: (σ ++ vs)) H) : Wd W n env σ (.d x :: stk) (some v :: vs) H := by
  obtain ⟨k, h, pp, M1, M2, a, nd, b, c⟩ := w
  obtain ⟨c1, c2⟩ := c
  obtain ⟨Ma, Mb, e, ca, cb⟩ := EnvOk.cut l c2
  subst e
  have es : Same (era H (W.M0 ++ (M1 ++ (Ma ++ Mb)))) (era H (W.M0 ++ (Ma ++ Mb))) := era_less fun b hb => by
    rcases List.mem_append.mp hb with z | z
    · exact List.mem_append_left _ z
    · exact List.mem_append_right _ (List.mem_append_right _ z)
  refine ⟨k, h, pp, Ma, Mb, fun p hp => a p (List.mem_append_right _ hp), (List.nodup_append.mp nd).2.1, ca.mono es (Same.refl _), ?_, cb.mono es (Same.refl _)⟩
  obtain ⟨u, e, r⟩ := c1
  exact ⟨u, e, r.mono es⟩
theorem Wd.back0 {env' : List E} {σ' : St} (l : σ.length = env.length) (w : Wd W n env' σ' (env ++ stk) (σ ++ vs) H) : Wd W n env σ stk vs H :=
  (Wd.back (x := .non) (v := .non) l (w.push fun _ _ => .non)).pop
theorem Wd.envLen (w : Wd W n env σ stk vs H) : σ.length = env.length := by
  obtain ⟨k, h, pp, M1, M2, a, nd, b, c⟩ := w
  exact b.len
/-- a new list that is owned, on the stack -/
theorem Wd.newOw {o : HO} {x : D} (w : Wd W n env σ stk vs H) {p : Addr} (hp : H p = Option.none) (hr : ∀ U, OwR W.K U p o x) : Wd W n env σ (.own x :: stk) (some (.ref p) :: vs) (upd H p o) := by
  have hid := w.hidH
  have w2 := w.mono (same_new (o := o) hp)
  obtain ⟨k, h, pp, M1, M2, a, nd, b, c⟩ := w
  have e : Same H (upd H p o) := same_new hp
  have np : p ∉ M1 ++ M2 := fun z => (a p z).2 hp
  have np0 : W.H0 p = Option.none := by
    cases q : W.H0 p with
    | none => rfl
    | some o =>
      by_cases z : W.P = some p
      · exact absurd hp ((pp p z).2.there)
      · rw [k p o z q] at hp; cases hp
  have e2 : Same (era H (W.M0 ++ (M1 ++ M2))) (era (upd H p o) (W.M0 ++ (M1 ++ p :: M2))) := fun b o hb => by
    obtain ⟨h1, h2⟩ := era_some hb
    refine era_of (e _ _ h1) fun z => h2 ?_
    have nb : b ≠ p := ne_of_none h1 hp
    simp only [List.mem_append, List.mem_cons] at z ⊢
    rcases z with z | z | z | z
    · exact .inl z
    · exact .inr (.inl z)
    · exact absurd z nb
    · exact .inr (.inr z)
  refine ⟨w2.keep, h, w2.pot, M1, p :: M2, fun q hq => ?_, ?_, b.mono e2 e, ⟨o, rfl, upd_same, hr _⟩, c.mono e2 e⟩
  · by_cases z : q = p
    · subst z; exact ⟨np0, by rw [upd_same]; exact fun z => by cases z⟩
    · rw [upd_ne z]
      refine a q ?_
      simp only [List.mem_append, List.mem_cons] at hq ⊢
      rcases hq with hq | hq | hq
      · exact .inl hq
      · exact absurd hq z
      · exact .inr hq
  · refine (List.perm_middle.nodup_iff).mpr ?_
    exact List.nodup_cons.mpr ⟨np, nd⟩
theorem Wd.newOwn (w : Wd W n env σ stk vs H) {p : Addr} (hp : H p = Option.none) : Wd W n env σ (.own (.lst []) :: stk) (some (.ref p) :: vs) (upd H p (.lst [])) := w.newOw hp fun _ => .lst .nil
theorem Wd.popOwn {xs : D} {o : Option V} (w : Wd W n env σ (.own xs :: stk) (o :: vs) H) : Wd W n env σ stk vs H := by
  obtain ⟨k, h, pp, M1, M2, a, nd, b, c⟩ := w
  cases M2 with
  | nil => exact c.elim
  | cons p M2 =>
    have es : Same (era H (W.M0 ++ (M1 ++ p :: M2))) (era H (W.M0 ++ (M1 ++ M2))) := era_less fun b hb => by
      simp only [List.mem_append, List.mem_cons] at hb ⊢
      rcases hb with z | z | z
      · exact .inl z
      · exact .inr (.inl z)
      · exact .inr (.inr (.inr z))
    refine ⟨k, h, pp, M1, M2, fun q hq => a q ?_, ?_, b.mono es (Same.refl _), c.2.mono es (Same.refl _)⟩
    · simp only [List.mem_append, List.mem_cons] at hq ⊢
      rcases hq with z | z
      · exact .inl z
      · exact .inr (.inr z)
    · exact (List.nodup_cons.mp (List.perm_middle.nodup_iff.mp nd)).2
theorem Wd.freeze {xs : D} {o : Option V} (w : Wd W n env σ (.own xs :: stk) (o :: vs) H) : Wd W n env σ (.d xs :: stk) (o :: vs) H := by
  have w2 := w.popOwn
  obtain ⟨k, h, pp, M1, M2, a, nd, b, c⟩ := w
  cases M2 with
  | nil => exact c.elim
  | cons p M2 =>
    obtain ⟨⟨ws, e, hp, r⟩, c⟩ := c
    have nq := List.nodup_cons.mp (List.perm_middle.nodup_iff.mp nd)
    have es : Same (era H (W.M0 ++ (M1 ++ p :: M2))) (era H (W.M0 ++ (M1 ++ M2))) := era_less fun b hb => by
      simp only [List.mem_append, List.mem_cons] at hb ⊢
      rcases hb with z | z | z
      · exact .inl z
      · exact .inr (.inl z)
      · exact .inr (.inr (.inr z))
    refine ⟨k, h, pp, M1, M2, fun q hq => a q ?_, nq.2, b.mono es (Same.refl _), ⟨.ref p, e, (r.mono es).rp (era_of hp fun z => ?_)⟩, c.mono es (Same.refl _)⟩
    · simp only [List.mem_append, List.mem_cons] at hq ⊢
      rcases hq with z | z
      · exact .inl z
      · exact .inr (.inr z)
    · rcases List.mem_append.mp z with z | z
      · exact w2.hid p z (a p (by simp)).1
      · exact nq.1 z
theorem Wd.append {xs : List D} {p : Addr} (w : Wd W n env σ (.d y :: .own (.lst xs) :: stk) (some vy :: some (.ref p) :: vs) H) : ∃ ws, H p = some (.lst ws) ∧ ws.length = xs.length ∧ Wd W n env σ (.own (.lst (xs ++ [y])) :: stk) (some (.ref p) :: vs) (upd H p (.lst (ws ++ [vy]))) := by
  obtain ⟨k, h, pp, M1, M2, a, nd, b, c⟩ := w
  obtain ⟨⟨u, e, ry⟩, c⟩ := c
  cases e
  cases M2 with
  | nil => exact c.elim
  | cons p' M2 =>
    obtain ⟨⟨ow, e, hp, r⟩, c⟩ := c
    cases e
    cases r with | @lst ws _ r => ?_
    have nq := List.nodup_cons.mp (List.perm_middle.nodup_iff.mp nd)
    have p0 := (a p (by simp)).1
    have hU : era (upd H p (.lst (ws ++ [vy]))) (W.M0 ++ (M1 ++ p :: M2)) = era H (W.M0 ++ (M1 ++ p :: M2)) := by
      funext b
      unfold era
      split
      · rfl
      · rename_i z
        rw [upd_ne]
        rintro rfl
        exact z (by simp)
    refine ⟨ws, hp, r.len, fun b o n q => ?_, h, fun q hq => ?_, M1, p :: M2, fun q hq => ⟨(a q hq).1, ?_⟩, nd, ?_, ⟨_, rfl, upd_same, ?_⟩, ?_⟩
    · rw [upd_ne (by rintro rfl; rw [p0] at q; cases q)]; exact k b o n q
    · obtain ⟨z1, z2⟩ := pp q hq
      refine ⟨z1, ?_⟩
      obtain ⟨a1, b1, c1, z3, z4⟩ := z2
      refine ⟨a1, b1, c1, ?_, z4⟩
      rw [upd_ne (by rintro rfl; exact h _ z1 p0)]; exact z3
    · by_cases z : q = p
      · subst z; rw [upd_same]; exact fun z => by cases z
      · rw [upd_ne z]; exact (a q hq).2
    · rw [hU]
      exact EnvOk.mono2 (Same.refl _) (fun q hq o z => by rw [upd_ne (by rintro rfl; exact nq.1 (List.mem_append_left _ hq))]; exact z) b
    · rw [hU]
      exact .lst (r.app (.cons ry .nil))
    · rw [hU]
      exact EnvOk.mono2 (Same.refl _) (fun q hq o z => by rw [upd_ne (by rintro rfl; exact nq.1 (List.mem_append_right _ hq))]; exact z) c
end
end FR
namespace FR
open PySem L2
variable [TheW]

/-! ## statements -/
structure Out where
  nx : List E → Nat → Prop
  rt : D → Nat → Prop
  bk : List E → Nat → Prop := fun _ _ => False
  ct : List E → Nat → Prop := fun _ _ => False

structure Fits (W : Wo) (O : Out) (stk : List E) (vs : St) (De : Ends) : Prop where
  nx : ∀ σ H env n, O.nx env n → Wd W n env σ stk vs H → De.nx σ H
  rt : ∀ v d n H env σ, O.rt d n → Wd W n env σ (.d d :: stk) (some v :: vs) H → De.rt v H
  bk : ∀ σ H env n, O.bk env n → Wd W n env σ stk vs H → De.bk σ H
  ct : ∀ σ H env n, O.ct env n → Wd W n env σ stk vs H → De.ct σ H

def WpS (W : Wo) (t : TS) (n : Nat) (env : List E) (O : Out) : Prop := ∀ σ stk vs H De, Wd W n env σ stk vs H → Fits W O stk vs De → t De σ H
/-- a target: L the slots that it may change -/
def WpG (W : Wo) (g : TG) (L : List Nat) (d : D) (n : Nat) (env : List E) (Φ : List E → Nat → Prop) : Prop := ∀ σ stk vs v H (Q : St → Hp → Prop), Wd W n env σ (.d d :: stk) (some v :: vs) H →
  (∀ σ' env' n' H', (∀ sl, (∀ i ∈ L, i ∈ sl) → L2.wipe σ' sl = L2.wipe σ sl) → Φ env' n' → Wd W n' env' σ' stk vs H' → Q σ' H') → g v σ H Q
def WpGs (W : Wo) (g : TGs) (L : List Nat) (ds : List D) (n : Nat) (env : List E) (Φ : List E → Nat → Prop) : Prop := ∀ σ stk vs us H (Q : St → Hp → Prop), us.length = ds.length → Wd W n env σ (ds.map E.d ++ stk) (us.map some ++ vs) H →
  (∀ σ' env' n' H', (∀ sl, (∀ i ∈ L, i ∈ sl) → L2.wipe σ' sl = L2.wipe σ sl) → Φ env' n' → Wd W n' env' σ' stk vs H' → Q σ' H') → g us σ H Q

section
variable {W : Wo} {n m : Nat} {env stk : List E} {σ : St} {ds : List D} {vs : St} {us : List V} {H H' : Hp} {d x y : D} {v vx vy : V} {i : Nat} {O : Out} {te : TE} {tt : TT} {t u : TS} {g : TG} {gs : TGs} {L L' : List Nat} {Ψ : List E → Nat → Prop}
theorem ws_seq (q : WpS W t n env { O with nx := fun env' n' => WpS W u n' env' O }) : WpS W (tSeq t u) n env O := fun σ stk vs H De w f =>
  q σ stk vs H { De with nx := u De } w ⟨fun σ' H' env' n' q' w' => q' σ' stk vs H' De w' f, f.rt, f.bk, f.ct⟩
theorem ws_next (q : O.nx env n) : WpS W tNext n env O := fun σ stk vs H De w f => f.nx σ H env n q w
theorem ws_drop (q : Wp W te n env fun _ n' => O.nx env n') : WpS W (tDrop te) n env O := fun σ stk vs H De w f =>
  q σ stk vs H _ w fun v d n' H' q' w' => f.nx σ H' env n' q' w'.pop
theorem ws_ret (q : Wp W te n env O.rt) : WpS W (tRet te) n env O := fun σ stk vs H De w f =>
  q σ stk vs H _ w fun v d n' H' q' w' => f.rt v d n' H' env σ q' w'
theorem ws_retN (q : O.rt .non n) : WpS W tRetN n env O := fun σ stk vs H De w f => f.rt .non .non n H env σ q (w.push fun _ _ => .non)
theorem ws_if (q : WpT W tt n env fun b n' => if b = true then WpS W t n' env O else WpS W u n' env O) : WpS W (tIfS tt t u) n env O := fun σ stk vs H De w f =>
  q σ stk vs H _ w fun b n' H' q' w' => by
    cases b with
    | true => exact q' σ stk vs H' De w' f
    | false => exact q' σ stk vs H' De w' f
theorem ws_asg (q : Wp W te n env fun d n' => WpG W g L d n' env O.nx) : WpS W (tAsg te g) n env O := fun σ stk vs H De w f =>
  q σ stk vs H _ w fun v d n1 H1 q1 w1 => q1 σ stk vs v H1 _ w1 fun σ' env' n' H' _ q' w' => f.nx σ' H' env' n' q' w'
theorem ws_break (q : O.bk env n) : WpS W tBreak n env O := fun σ stk vs H De w f => f.bk σ H env n q w
theorem ws_cont (q : O.ct env n) : WpS W tCont n env O := fun σ stk vs H De w f => f.ct σ H env n q w
theorem WpS.mono {O' : Out} (h : WpS W t n env O) (h1 : ∀ e n, O.nx e n → O'.nx e n) (h2 : ∀ e n, O.rt e n → O'.rt e n) (h3 : ∀ e n, O.bk e n → O'.bk e n) (h4 : ∀ e n, O.ct e n → O'.ct e n) : WpS W t n env O' := fun σ stk vs H De w f =>
  h σ stk vs H De w ⟨fun a b c d e => f.nx a b c d (h1 _ _ e), fun a b c d e g p => f.rt a b c d e g (h2 _ _ p), fun a b c d e => f.bk a b c d (h3 _ _ e), fun a b c d e => f.ct a b c d (h4 _ _ e)⟩
theorem WpS.le (h : WpS W t m env O) (l : n ≤ m) : WpS W t n env O := fun σ stk vs H De w f => h σ stk vs H De (w.le l) f
theorem Wp.le {Φ : D → Nat → Prop} (h : Wp W te m env Φ) (l : n ≤ m) : Wp W te n env Φ := fun σ stk vs H Q w f => h σ stk vs H Q (w.le l) f

theorem wg_name (q : Ψ (env.set i (.d d)) n) : WpG W (gName i) [i] d n env Ψ := fun σ stk vs v H Q w k =>
  k _ _ n H (fun sl h => wipe_put (h i (by simp))) q (w.set i)
theorem wgs_nil (q : Ψ env n) : WpGs W gNil [] [] n env Ψ := fun σ stk vs us H Q l w k => by
  cases us with
  | nil => exact ⟨rfl, k σ env n H (fun _ _ => rfl) q w⟩
  | cons _ _ => simp at l
theorem wgs_cons (q : WpG W g L d n env fun env1 n1 => WpGs W gs L' ds n1 env1 Ψ) : WpGs W (gCons g gs) (L ++ L') (d :: ds) n env Ψ := fun σ stk vs us H Q l w k => by
  cases us with
  | nil => simp at l
  | cons v us =>
    refine ⟨v, us, rfl, q σ (ds.map E.d ++ stk) (us.map some ++ vs) v H _ w fun σ1 env1 n1 H1 s1 q1 w1 => ?_⟩
    refine q1 σ1 stk vs us H1 Q (by simpa using l) w1 fun σ2 env2 n2 H2 s2 q2 w2 => k σ2 env2 n2 H2 (fun sl h => ?_) q2 w2
    rw [s2 sl fun i hi => h i (List.mem_append_right _ hi), s1 sl fun i hi => h i (List.mem_append_left _ hi)]
theorem wg_tup {k : Nat} (hl : ds.length = k) (q : WpGs W gs L ds n env Ψ) : WpG W (gTup W.K k gs) L (.tup ds) n env Ψ := fun σ stk vs v H Q w kk => by
  have t := w.top
  have w0 := w
  obtain ⟨k1, h1, pp, M1, M2, a, nd, b, c⟩ := w
  obtain ⟨⟨u, e, r⟩, c⟩ := c
  cases e
  cases r with
  | tup hs hr =>
    refine ⟨_, _, rfl, same_sqT (era_sub _ _) hs, ?_, ?_⟩
    · rw [hr.len]; exact hl
    · exact q σ stk vs _ H Q hr.len ⟨k1, h1, pp, M1, M2, a, nd, b, EnvOk.ofL hr c⟩ kk

theorem wg_tpk {k : Nat} (hl : ds.length = k) (q : WpGs W gs L ds n env Ψ) : WpG W (gTup W.K k gs) L (.tpk ds) n env Ψ := fun σ stk vs v H Q w kk => by
  obtain ⟨k1, h1, pp, M1, M2, a, nd, b, c⟩ := w
  obtain ⟨⟨u, e, r⟩, c⟩ := c
  cases e
  cases r with
  | tpk hs hr =>
    refine ⟨_, _, rfl, .inl (same_rd (era_sub _ _) hs), ?_, ?_⟩
    · rw [hr.len]; exact hl
    · exact q σ stk vs _ H Q hr.len ⟨k1, h1, pp, M1, M2, a, nd, b, EnvOk.ofL hr c⟩ kk

/-! ## what is walked -/
structure ItD (K : PySem.W.Frag) (J : It) (ds : List D) (stk2 : List D) (vs2 : List V) : Prop where
  ex : ∃ (G : Hp → Prop) (Y : Nat → Hp → V → Hp → Prop), Walk J ds.length G Y ∧ (∀ H, RpL K H vs2 stk2 → G H) ∧
    ∀ i H x H', i < ds.length → RpL K H vs2 stk2 → Y i H x H' → ∃ d, ds[i]? = some d ∧ Same H H' ∧ ∀ M : List Addr, (∀ p ∈ M, H p ≠ Option.none) → RpL K (era H M) vs2 stk2 → Rp K (era H' M) x d
/-- what the world holds fast -/
def Kp (W : Wo) (H : Hp) : Prop := ∀ b o, W.P ≠ some b → W.H0 b = some o → H b = some o
structure ItN (W : Wo) (J : It) (ds : List D) (stk2 : List D) (vs2 : List V) : Prop where
  ex : ∃ (G : Hp → Prop) (Y : Nat → Hp → V → Hp → Prop), Walk J ds.length G Y ∧ (∀ H, RpL W.K H vs2 stk2 → Kp W H → G H) ∧
    ∀ i H x H', i < ds.length → RpL W.K H vs2 stk2 → Kp W H → Y i H x H' → ∃ d, ds[i]? = some d ∧ Same H H' ∧ ∀ M : List Addr, (∀ p ∈ M, H p ≠ Option.none) → RpL W.K (era H M) vs2 stk2 → Rp W.K (era H' M) x d
theorem ItD.up {W : Wo} {J : It} {ds stk2 : List D} {vs2 : List V} (h : ItD W.K J ds stk2 vs2) : ItN W J ds stk2 vs2 := ⟨by
  obtain ⟨G, Y, a, b, c⟩ := h.ex
  exact ⟨G, Y, a, fun H r _ => b H r, fun i H x H' hi r _ y => c i H x H' hi r y⟩⟩
def WpI (W : Wo) (wi : TI) (n : Nat) (env : List E) (Φ : List D → Nat → Prop) : Prop := ∀ σ stk vs H (R : It → Hp → Prop), Wd W n env σ stk vs H →
  (∀ J ds n' H' stk2 vs2, Φ ds n' → vs2.length = stk2.length → Wd W n' env σ (stk2.map E.d ++ stk) (vs2.map some ++ vs) H' → ItN W J ds stk2 vs2 → R J H') → wi σ H R

theorem Wd.yield {J : It} {stk2 : List D} {vs2 : List V} (hJ : ItN W J ds stk2 vs2) {stk1 : List E} {vs1 : St}
    (l : vs2.length = stk2.length) (w : Wd W n env σ (stk1 ++ (stk2.map E.d ++ stk)) (vs1 ++ (vs2.map some ++ vs)) H) (l1 : vs1.length = stk1.length) :
    ∃ (G : Hp → Prop) (Y : Nat → Hp → V → Hp → Prop), Walk J ds.length G Y ∧ G H ∧ ∀ i x H', i < ds.length → Y i H x H' → ∃ d, ds[i]? = some d ∧ Wd W n env σ (.d d :: (stk1 ++ (stk2.map E.d ++ stk))) (some x :: (vs1 ++ (vs2.map some ++ vs))) H' := by
  obtain ⟨G, Y, hw, hG, hY⟩ := hJ.ex
  have hid := w.hidH
  have w0 := w
  obtain ⟨k1, h1, pp, M1, M2, a, nd, b, c⟩ := w
  obtain ⟨Ma, Mb, e, ca, cb⟩ := EnvOk.cut l1 c
  have rl := (EnvOk.toL l cb).1
  refine ⟨G, Y, hw, hG H (rl.mono (era_sub _ _)) k1, fun i x H' hi y => ?_⟩
  obtain ⟨d, e1, s, r⟩ := hY i H x H' hi (rl.mono (era_sub _ _)) k1 y
  refine ⟨d, e1, ?_⟩
  refine ⟨fun b o n q => s _ _ (k1 b o n q), h1, fun q hq => ⟨(pp q hq).1, (pp q hq).2.mono s⟩, M1, M2, fun q hq => ⟨(a q hq).1, fun z => ?_⟩, nd, b.mono (era_mono _ s) s, ⟨x, rfl, ?_⟩, c.mono (era_mono _ s) s⟩
  · cases rr : H q with
    | none => exact (a q hq).2 rr
    | some o => rw [s _ _ rr] at z; cases z
  · refine r _ (fun p hp => ?_) rl
    rcases List.mem_append.mp hp with z | z
    · exact hid p z
    · exact (a p z).2

theorem ws_for {wi : TI} {tb : TS} (q : WpI W wi n env fun ds n1 => ∃ I : Nat → List E → Nat → Prop, I 0 env n1 ∧
      (∀ i d env' m, ds[i]? = some d → I i env' m → WpG W g L d m env' fun env2 m2 => WpS W tb m2 env2 { nx := I (i + 1), ct := I (i + 1), bk := O.nx, rt := O.rt }) ∧
      ∀ env' m, I ds.length env' m → O.nx env' m) : WpS W (tFor wi g tb) n env O := fun σ stk vs H De w f =>
  q σ stk vs H _ w fun J ds n1 H1 stk2 vs2 q1 l2 w1 hJ => by
    obtain ⟨I, i0, it, ie⟩ := q1
    obtain ⟨G, Y, hw, hG0, hY0⟩ := Wd.yield (stk1 := []) (vs1 := []) hJ l2 w1 rfl
    clear hG0 hY0 hw G Y
    obtain ⟨G, Y, hw, hG, hY⟩ := hJ.ex
    refine for_it (J := J) (n := ds.length) hw (fun i σ H => ∃ env m, I i env m ∧ Wd W m env σ (stk2.map E.d ++ stk) (vs2.map some ++ vs) H) ⟨env, n1, i0, w1⟩ ?_ ?_ ?_
    · rintro i σ' H' hi ⟨env', m, hI, w'⟩
      exact hG H' (w'.sees l2) w'.keep
    · rintro i x σ' H' H2 hi ⟨env', m, hI, w'⟩ y
      obtain ⟨d, e1, s, r⟩ := hY i H' x H2 hi (w'.sees l2) w'.keep y
      have w2 : Wd W m env' σ' (.d d :: (stk2.map E.d ++ stk)) (some x :: (vs2.map some ++ vs)) H2 := by
        have hid := w'.hidH
        obtain ⟨k1, h1, pp, M1, M2, a, nd, b, c⟩ := w'
        have rl := (EnvOk.toL l2 c).1
        refine ⟨fun b o n q => s _ _ (k1 b o n q), h1, fun q hq => ⟨(pp q hq).1, (pp q hq).2.mono s⟩, M1, M2, fun q hq => ⟨(a q hq).1, fun z => ?_⟩, nd, b.mono (era_mono _ s) s, ⟨x, rfl, ?_⟩, c.mono (era_mono _ s) s⟩
        · cases rr : H' q with
          | none => exact (a q hq).2 rr
          | some o => rw [s _ _ rr] at z; cases z
        · refine r _ (fun p hp => ?_) rl
          rcases List.mem_append.mp hp with z | z
          · exact hid p z
          · exact (a p z).2
      refine it i d env' m e1 hI σ' _ _ x H2 _ w2 fun σ3 env3 m3 H3 _ q3 w3 => ?_
      refine q3 σ3 _ _ H3 _ w3 ⟨fun σ4 H4 env4 m4 q4 w4 => ⟨env4, m4, q4, w4⟩, fun v d n H env σ q4 w4 => ?_, fun σ4 H4 env4 m4 q4 w4 => f.nx σ4 H4 env4 m4 q4 (w4.pops l2), fun σ4 H4 env4 m4 q4 w4 => ⟨env4, m4, q4, w4⟩⟩
      refine f.rt v d n H env σ q4 ?_
      have w5 := Wd.swap l2 (ds := stk2) (us := vs2) (d := d) (v := v) (stk := stk) (vs := vs) (W := W) (n := n) (env := env) (σ := σ) (H := H)
      have w6 : Wd W n env σ ((d :: stk2).map E.d ++ stk) ((v :: vs2).map some ++ vs) H := w4
      exact Wd.restk (ds := d :: stk2) (us := v :: vs2) (ds' := [d]) (us' := [v]) w6 (by simp [l2]) fun U _ r => by
        cases r with
        | cons r _ => exact .cons r .nil
    · rintro σ' H' ⟨env', m, hI, w'⟩
      exact f.nx σ' H' env' m (ie env' m hI) (w'.pops l2)

/-! ## comprehensions -/
theorem wp_lc {wi : TI} {sl : List Nat} {Φ : D → Nat → Prop} (hL : ∀ i ∈ L, i ∈ sl) (q : WpI W wi n env fun ds n1 => ∃ I : Nat → List D → Nat → Prop, I 0 [] n1 ∧ ds.length ≤ sizeLine ∧
      (∀ i d acc m, ds[i]? = some d → I i acc m → WpG W g L d m (wipeE (env.map hideE) sl) fun env2 m2 => WpT W tt m2 env2 fun b m3 => if b = true then Wp W te m3 env2 (fun y m4 => I (i + 1) (acc ++ [y]) m4) else I (i + 1) acc m3) ∧
      ∀ acc m, I ds.length acc m → acc.length ≤ ds.length → Φ (.lst acc) m) : Wp W (tLc wi g tt te sl) n env Φ := fun σ stk vs H Q w k =>
  q σ stk vs H _ w fun J ds n1 H1 stk2 vs2 q1 l2 w1 hJ => by
    obtain ⟨I, i0, hsz, it, ie⟩ := q1
    intro Da hDa
    obtain ⟨G, Y, hw, hG, hY⟩ := hJ.ex
    have wn := w1.newOwn hDa
    refine lc_it (J := J) (n := ds.length) hw (fun i H => ∃ acc m, I i acc m ∧ acc.length ≤ i ∧ Wd W m env σ (.own (.lst acc) :: (stk2.map E.d ++ stk)) (some (.ref Da) :: (vs2.map some ++ vs)) H) ⟨[], n1, i0, Nat.le_refl _, wn⟩ ?_ ?_ ?_
    · rintro i H' hi ⟨acc, m, hI, hl, w'⟩
      exact hG H' (w'.popOwn.sees l2) w'.keep
    · rintro i x H' H2 hi ⟨acc, m, hI, hl, w'⟩ y
      obtain ⟨d, e1, s, r⟩ := hY i H' x H2 hi (w'.popOwn.sees l2) w'.keep y
      have w2 : Wd W m env σ (.d d :: (.own (.lst acc) :: (stk2.map E.d ++ stk))) (some x :: (some (.ref Da) :: (vs2.map some ++ vs))) H2 := by
        have hid := w'.hidH
        obtain ⟨k1, h1, pp, M1, M2, a, nd, b, c⟩ := w'
        cases M2 with
        | nil => exact c.elim
        | cons p M2 =>
          have rl := (EnvOk.toL l2 c.2).1
          refine ⟨fun b o n q => s _ _ (k1 b o n q), h1, fun q hq => ⟨(pp q hq).1, (pp q hq).2.mono s⟩, M1, p :: M2, fun q hq => ⟨(a q hq).1, fun z => ?_⟩, nd, b.mono (era_mono _ s) s, ⟨x, rfl, ?_⟩, EnvOk.mono (env := .own (.lst acc) :: (stk2.map E.d ++ stk)) (σ := some (.ref Da) :: (vs2.map some ++ vs)) (era_mono _ s) s c⟩
          · cases rr : H' q with
            | none => exact (a q hq).2 rr
            | some o => rw [s _ _ rr] at z; cases z
          · refine r _ (fun p hp => ?_) rl
            rcases List.mem_append.mp hp with z | z
            · exact hid p z
            · exact (a p z).2
      have lenv := w2.envLen
      have w3 := w2.save sl
      refine it i d acc m e1 hI (L2.wipe σ sl) _ _ x H2 _ w3 fun σ3 env3 m3 H3 s3 q3 w4 => ⟨(s3 sl hL).trans wipe_twice, ?_⟩
      refine q3 σ3 _ _ H3 _ w4 fun b m4 H4 q4 w5 => ?_
      cases b with
      | false => exact ⟨acc, m4, q4, by omega, w5.back0 lenv⟩
      | true =>
        refine q4 σ3 _ _ H4 _ w5 fun vy y m5 H5 q5 w6 => ?_
        obtain ⟨ws, h5, l5, w7⟩ := (w6.back lenv).append
        refine ⟨ws, h5, by omega, acc ++ [y], m5, q5, by simp; omega, w7⟩
    · rintro H' ⟨acc, m, hI, hl, w'⟩
      have w2 := w'.freeze
      refine k _ _ m H' (ie acc m hI hl) ?_
      have w6 : Wd W m env σ ((.lst acc :: stk2).map E.d ++ stk) ((.ref Da :: vs2).map some ++ vs) H' := w2
      exact Wd.restk (ds := .lst acc :: stk2) (us := .ref Da :: vs2) (ds' := [.lst acc]) (us' := [.ref Da]) w6 (by simp [l2]) fun U _ r => by
        cases r with
        | cons r _ => exact .cons r .nil
end
end FR
namespace FR
open PySem PySem.Spec PyProof.Rows L2

/-! ## defs whose promise may lean on it that no repr is under way -/
structure FnG (P : Program) (w : World) (K : PySem.W.Frag) (mg : Str → Option Value) (base : Heap) (k : Nat) (f : Addr) (fd : FuncData) (ps : List Str) (sp : Sp) : Prop where
  len : ∀ vs H Q E, sp vs H Q E → vs.length = ps.length
  run : ∀ (B : Around) (out : List Env) (t : Shared) (H : Hp) (args : Args) (us : List Value) (vs : List V) (Q : VK) (E : XK),
    B.guards = some [] → Room k B → Env0 P w K mg base B out t H → BindsTo t fd args (ps.zip us) → Vals vs us → sp vs H Q E →
      codeAny (model P w) B (.call (.ref f) args) (CR CX0 out P w H t Q E) t

section
variable {P : Program} {w : World} {K : PySem.W.Frag} {mg : Str → Option Value} {base : Heap} {k : Nat} {f : Addr} {fd : FuncData} {ps : List Str} {sp : Sp}
theorem FnG.of (F : FnOk P w K mg base CX0 k f fd ps sp) : FnG P w K mg base k f fd ps sp :=
  ⟨F.len, fun B out t H args us vs Q E _ hr he hb hv hs => F.run B out t H args us vs Q E hr he hb hv hs⟩
theorem FnG.mono {j : Nat} (F : FnG P w K mg base j f fd ps sp) (h : j ≤ k) : FnG P w K mg base k f fd ps sp :=
  ⟨F.len, fun B out t H args us vs Q E g hr he hb hv hs => F.run B out t H args us vs Q E g (hr.mono h) he hb hv hs⟩

theorem fnG_of {name qual : Str} {st : Stmt} {N : List Str} (F : Fun K name qual st f fd) (S : FnScope N ps (defScope st)) (len : ∀ vs H Q E, sp vs H Q E → vs.length = ps.length)
    (hbody : ∀ (cdv : Value) (B : Around) (out : List Env) (t : Shared) (H : Hp) (vs : List V) (Q : VK) (E : XK),
      B.guards = some [] → Room k (B.deeper (envOfC qual (defScope st) t.heap.objs.size f cdv)) → sp vs H Q E →
      ∃ r, PSs (cxOf CX0 P w K mg base N qual (defScope st) f cdv B out t H E).nox (defBody st) r ∧ r { nx := fun _ H' => Q .non H', rt := Q } (start N vs) H) :
    FnG P w K mg base (k + 1) f fd ps sp := by
  obtain ⟨oc, od, kV, doc, pm, an, cdv, ct, osl, rfl, lk, hcd⟩ := F.ex
  refine ⟨len, fun B out t H args us vs Q E hgu hr e0 hb rv hsp => ?_⟩
  have KH : K.In t.heap := e0.mod.kin.keeps fun c o q => (e0.bs c o q).1
  have noL : t.heap.NoLimit := e0.mod.nolimit.keeps fun c o q => (e0.bs c o q).1
  refine codeAny_call_function hr.depth (KH _ _ lk) rfl S.co S.gen rfl (PySem.W.codeRec_of KH hcd) (hb _ _ _ _ ?_)
  refine wpAny_newFunctionEnv_cells S.kind (fun ⟨nm, val⟩ hy => ?_) fun en hen t1 ic => ?_
  · rcases S.par nm (List.of_mem_zip hy).1 with z | z
    · exact .inl z
    · exact .inr ⟨z, PySem.W.cellsFrom_some _ _ _ (.inl z)⟩
  · subst hen
    refine ⟨noL.keeps ic.toInCall.keep, codeAny_func ?_⟩
    obtain ⟨r, hr1, hr2⟩ := hbody cdv B out t H vs Q E hgu (hr.deeper _) hsp
    have I0 : Inv (cxOf CX0 P w K mg base N qual (defScope st) f cdv B out t H E) [] (start N vs) H t1 := inv_start S hr.hd e0 (len _ _ _ _ hsp) rv ic
    refine wpAny_mono (hr1.nox.run [] t1 (start N vs) H _ I0 hr2) (fun fl t2 hq => ?_) fun e t2 hq => hq
    cases fl with
    | ret u =>
      obtain ⟨v, τ, H2, J, ru, q⟩ := hq
      exact ⟨v, H2, J.os, J.bare, J.base, J.hok, ru, q⟩
    | next =>
      obtain ⟨τ, H2, J, q⟩ := hq
      exact ⟨V.non, H2, J.os, J.bare, J.base, J.hok, rfl, q⟩
    | brk => obtain ⟨_, _, _, q⟩ := hq; exact q.elim
    | cont => obtain ⟨_, _, _, q⟩ := hq; exact q.elim
end

section
variable {X : Cx} {k : Nat} {f : Addr} {fd : FuncData} {ps : List Str} {sp : Sp} {x : Str} {p pos : Pos} {e : Expr} {es : List Expr} {t : TA}
theorem pe_callG (F : FnG X.prog X.w X.K X.mg X.base k f fd ps sp) (gu : X.A.guards = some []) (hr : Room k X.A) (hg : Gl X x) (hm : X.mg x = some (.ref f)) (hk : PySem.W.keepIn X.K (.ref f) = true) (hb : Binds X.K fd ps [])
    (ha : PA X (e :: es) t) (hdb : (x == ("__debug__" : Str)) = false := by decide) (he : starEach (e :: es) X.env = (false, eval e X.env) :: starEach es X.env := by rfl) (hpl : (backTo pos (starEach es X.env)).any (·.1) = false := by rfl) :
    PE X (.Call (.Name x p) (e :: es) [] pos) (tCall sp [] E0 t) := by
  refine ⟨fun pins s σ H Q I h => ?_⟩
  refine wpAny_Call_Name_kw (ld_glob I hg hm ?_ hdb)
  refine PySem.W.callWith_K (h₀ := X.base) I.ok.mod.kin hk (thn (ha.run pos pins s σ H _ I h) fun us s1 ⟨vs, H1, I1, r, q⟩ => ⟨I1.kIn, ?_⟩) he hpl
  have r2 : Vals (vs ++ []) (us ++ []) := r.append .nil
  have ll : (us ++ ([] : List Value)).length = ps.length := by rw [← r2.length]; exact F.len _ _ _ _ q
  refine wpAny_call (codeAny_mono (F.run X.A X.stack s1 H1 ⟨us, []⟩ (us ++ []) (vs ++ []) Q E0 gu hr I1.env0 (hb s1 us I1.kIn ll) r2 q) fun rr s2 hq => ?_)
  cases rr with
  | error e => exact hq.elim
  | ok fl =>
    cases fl with
    | ret u => exact I1.after hq
    | next => exact hq.elim
    | brk => exact hq.elim
    | cont => exact hq.elim
end

/-! ## the law's own call -/
def SysB (base : Heap) : Prop := ∃ o, base.get? sysModules = some o
theorem law_callG {P : Program} {w : World} {K : PySem.W.Frag} {mg mb : Str → Option Value} {k : Nat} {fa a : Addr} {fd : FuncData} {x : Str} {sp : Sp} {t1 : Shared} {vs : List Value} {ns : List Int}
    (KX : K.In t1.heap) (hns : t1.heap.Ns mainGlobals mg) (hb : t1.heap.Ns builtinsNs mb) (hbb : ∀ x : Str, x ≠ "__name__" → mb x = bootBuiltins x) (hlim : t1.heap.NoLimit) (hg : t1.gens = #[])
    (ha : t1.heap.get? a = some { cls := .type "list", data := .seq vs.toArray }) (hi : IntsAre vs ns) (hl : ns.length ≤ sizeLine) (hr : Room k callerA)
    (hsys : ∃ mm, t1.heap.Ns sysModules mm) (F : ∀ base : Heap, K.In base → base.Ns mainGlobals mg → SysB base → FnG P w K mg base k fa fd [x] sp) (hbind : ∀ (s : Shared) (u : Value), BindsTo s fd ⟨[u], []⟩ [(x, u)])
    (hsp : ∀ H : Hp, Only H → SqL K H a (ns.map V.int) → sp [.ref a] H (fun v _ => v = .bl true) fun _ _ _ => False) :
    codeAny (model P w) callerA (.call (.ref fa) ⟨[.ref a], []⟩) (fun r s' => r = .ok (.ret (.bool true)) ∧ OldK t1.heap s'.heap ∧ s'.os = t1.os ∧ AllBare s'.gens) t1 := by
  have main : ∀ H : Hp, Only H → SqL K H a (ns.map V.int) → HOk P w H t1.heap → (∀ c, H c ≠ none → c = a) → (H a ≠ none → K.lookup a = none) →
      codeAny (model P w) callerA (.call (.ref fa) ⟨[.ref a], []⟩) (fun r s' => r = .ok (.ret (.bool true)) ∧ OldK t1.heap s'.heap ∧ s'.os = t1.os ∧ AllBare s'.gens) t1 := by
    intro H hO hS hok hA hK
    have dfree : ∀ {c : Addr} {o : Obj} {es : Array DictEntry} {ep : Nat}, t1.heap.get? c = some o → o.data = .dict es ep → H c = none := by
      intro c o es ep q dd
      cases z : H c with
      | none => rfl
      | some u =>
        obtain rfl : c = a := hA c (by rw [z]; exact fun y => nomatch y)
        rw [ha] at q
        cases q
        exact nomatch (show Data.seq vs.toArray _ = Data.dict es ep from dd)
    have nsB : ∀ {c : Addr} {m : Str → Option Value}, t1.heap.Ns c m → (hidT t1.heap H).Ns c m := fun ⟨o, es, ep, q, dd, r⟩ => ⟨o, es, ep, hidT_get q (dfree q dd), dd, r⟩
    have kB : K.In (hidT t1.heap H) := fun c o q => hidT_get (KX c o q) (by
      cases z : H c with
      | none => rfl
      | some u =>
        obtain rfl : c = a := hA c (by rw [z]; exact fun y => nomatch y)
        rw [hK (by rw [z]; exact fun y => nomatch y)] at q
        exact nomatch q)
    have e0 : Env0 P w K mg (hidT t1.heap H) callerA [] t1 H :=
      ⟨rfl, ⟨kB, nsB hns, ⟨mb, nsB hb, hbb⟩, let ⟨mc, h1, h2⟩ := hlim; ⟨mc, nsB h1, h2⟩⟩, fun c o q => of_hidT q, Nat.le_of_eq (hidT_size _ _), trivial, fun c hc => (nomatch (show c ∈ ([] : List Addr) from hc)), hok, .of_eq hg⟩
    obtain ⟨mm, hmm⟩ := hsys
    have sysb : SysB (hidT t1.heap H) := let ⟨o, _, _, e, _⟩ := nsB hmm; ⟨o, e⟩
    refine codeAny_mono ((F _ kB (nsB hns) sysb).run callerA [] t1 H ⟨[.ref a], []⟩ [.ref a] [.ref a] _ _ rfl hr e0 (hbind t1 (.ref a)) (.cons rfl .nil) (hsp H hO hS)) fun r s2 h => ?_
    cases r with
    | error e => exact h.elim
    | ok fl =>
      cases fl with
      | next => exact h.elim
      | brk => exact h.elim
      | cont => exact h.elim
      | ret u =>
        obtain ⟨v, H2, os, bare, un, hok2, ru, q⟩ := h
        obtain rfl : v = .bl true := q
        obtain rfl : u = Value.bool true := ru
        refine ⟨rfl, OldK.of_keep fun c o e => ?_, os, bare⟩
        cases z : H c with
        | none => exact un.keep c o e z (fun y => nomatch (show c ∈ ([] : List Addr) from y)) (fun y => nomatch y)
        | some u =>
          rcases hO c with y | ⟨ob, xs, y⟩
          · rw [z] at y; exact nomatch y
          · obtain ⟨e1, _⟩ := hok c _ y
            obtain ⟨e2, _⟩ := hok2 c _ (un.frzs c ob _ y)
            rw [e] at e1; cases e1
            exact e2
  have rv := vals_ints hi
  cases hk : K.lookup a with
  | some o =>
    have q := KX a o hk
    rw [ha] at q
    cases q
    exact main (fun _ => none) (fun _ => .inl rfl) (.inr ⟨_, vs.toArray, _, hk, rfl, rfl, rfl, by rw [List.size_toArray, hi.length]; exact hl, by simpa using rv⟩)
      (fun c u z => nomatch (show (none : Option HO) = some u from z)) (fun c z => absurd rfl z) fun z => absurd rfl z
  | none =>
    refine main (fun c => if c = a then some (.frz { cls := .type "list", data := .seq vs.toArray } (.lst (ns.map V.int))) else none) (fun c => ?_)
      (.inl (.inr ⟨{ cls := .type "list", data := .seq vs.toArray }, if_pos rfl⟩)) (fun c u z => ?_) (fun c z => ?_) fun _ => hk
    · by_cases hc : c = a
      · exact .inr ⟨_, _, if_pos hc⟩
      · exact .inl (if_neg hc)
    · by_cases hc : c = a
      · have y := (if_pos hc).symm.trans z
        cases y
        subst hc
        exact ⟨ha, by rw [List.length_map]; exact hl, vs, _, rv, ha⟩
      · exact nomatch (if_neg hc).symm.trans z
    · by_cases hc : c = a
      · exact hc
      · exact absurd (if_neg hc) z

theorem walkG {l : PySem.W.OpenLaw} {n k : Nat} {q : Program} {loose : List Str} {XP : (Str → Option Value) → Heap → Prop} {YP : World → Heap → Prop} {d : DefRec} {K : Params → PySem.W.Frag} {sp : World → Sp} {x : Str}
    (hn : l.most = some n) (hn2 : n ≤ sizeLine) (hdf : d.params.defaults = []) (hr : Room k callerA) (himp : importsNone q = true) (hY : ∀ (w : World) (h : Heap), YP w h → (K w.params).In h)
    (F : ∀ (w : World) (mg : Str → Option Value) (fa : Addr) (h : Heap), (K w.params).In h → h.Ns mainGlobals mg → mg d.name = some (.ref fa) →
      ∃ fd : FuncData, (∀ (s : Shared) (u : Value), BindsTo s fd ⟨[u], []⟩ [(x, u)]) ∧
        ∀ base : Heap, (K w.params).In base → base.Ns mainGlobals mg → SysB base → FnG l.prog w (K w.params) mg base k fa fd [x] (sp w))
    (hsp : ∀ (w : World) (H : Hp) (a : Addr) (ns : List Int), ns.length ≤ n → Only H → SqL (K w.params) H a (ns.map V.int) → sp w [.ref a] H (fun v _ => v = .bl true) fun _ _ _ => False) :
    PySem.W.WalkO q loose XP YP l.row.toRowW d [] (fun f vs => PySem.call f vs) := by
  refine Att.attach_call hn hdf fun w s0 t1 mg mb fa o pm cd doc a vs ns G Y ho hd hcd hmg hobj hints hlen hg => ?_
  obtain ⟨fd, hb, hF⟩ := F w mg fa _ (hY w _ Y) G.T.g hmg
  exact law_callG (hY w _ Y) G.T.g G.T.b G.T.builtins G.T.nolimit hg hobj hints (Nat.le_trans hlen hn2) hr (let ⟨mm, h, _⟩ := (G.T.seer himp).mods; ⟨mm, h⟩) hF hb fun H hO hS => hsp w H a ns hlen hO hS
end FR
namespace FR
open PySem PySem.Spec PyProof.Rows L2
variable [TheW]

/-! ## data as the library reads them -/
def keyP : Key → PyData
  | .inl i => .int i
  | .inr x => .str x
mutual
def py : D → PyData
  | .non => .none
  | .bl b => .bool b
  | .int i => .int i
  | .str x => .str x
  | .lst xs => .list (pyL xs)
  | .tup xs => .tuple (pyL xs)
  | .dct kvs => .dict (pyK kvs)
  | .ty _ => .none
  | .lsq xs => .list (pyL xs)
  | .dcT _ => .none
  | .ins _ _ _ _ => .none
  | .tpk _ => .none
def pyL : List D → List PyData
  | [] => []
  | x :: xs => py x :: pyL xs
def pyK : List (Key × D) → List (PyData × PyData)
  | [] => []
  | (k, x) :: xs => (keyP k, py x) :: pyK xs
end
mutual
/-- no class among it -/
def noTy : D → Bool
  | .ty _ => false
  | .lsq _ => false
  | .dcT _ => false
  | .ins _ _ _ _ => false
  | .tpk _ => false
  | .lst xs => noTyL xs
  | .tup xs => noTyL xs
  | .dct kvs => noTyK kvs
  | _ => true
def noTyL : List D → Bool
  | [] => true
  | x :: xs => noTy x && noTyL xs
def noTyK : List (Key × D) → Bool
  | [] => true
  | (_, x) :: xs => noTy x && noTyK xs
end

theorem KV.nil_inv {κ : Type} {vs : List (κ × Value)} (h : KV ([] : List (κ × V)) vs) : vs = [] := by cases h; rfl

section
variable {X : Cx} {pins : List (Addr × Obj)} {σ : L2.St} {H : Hp} {s : Shared}
theorem not_sys (I : Inv X pins σ H s) (hb : SysB X.base) {a : Addr} {o : HO} (h : H a = some o) : a ≠ sysModules := by
  rintro rfl
  obtain ⟨ob, e⟩ := hb
  rw [(I.bs _ _ e).2] at h
  exact nomatch h
theorem key_reads {P : Program} {w : World} {h : Heap} {k : Key} {u : Value} (q : (mixKind P w).is k u = true) : Reads h u (keyP k) [] := by
  rcases keyIs_shape q with ⟨i, t, rfl, rfl⟩ | ⟨x, t, rfl, rfl⟩
  · exact .int i t
  · exact .str x t
theorem keys_read {P : Program} {w : World} {h : Heap} : ∀ {es : List DictEntry} {kvs : List (Key × Value)} {vs : List (Key × V)} {ds : List (Key × D)} {K₀ : PySem.W.Frag} {H : Hp}, Pairs (mixKind P w) es kvs → KV vs kvs → RpK K₀ H vs ds → ReadsAll h (es.map (·.key)) ((pyK ds).map (·.1)) []
  | _, _, _, _, _, _, .nil, kv, r => by
    cases kv
    cases r
    exact .nil
  | _, _, _, _, _, _, .cons a b c, kv, r => by
    cases kv with
    | cons e kv =>
      cases r with
      | cons r1 r2 =>
        have e1 : _ = _ := e.1
        subst e1
        exact .cons (key_reads a) (keys_read c kv r2)
mutual
theorem Rp.reads (I : Inv X pins σ H s) (hb : SysB X.base) : ∀ (d : D) (v : V) (u : Value), Rp X.K H v d → noTy d = true → RelV v u → ∃ as, Reads s.heap u (py d) as ∧ sysModules ∉ as
  | .non, _, _, h, _, r => by
    cases h; cases r
    exact ⟨[], by rw [py]; exact .none, by simp⟩
  | .bl b, _, _, h, _, r => by
    cases h; cases r
    exact ⟨[], by rw [py]; exact .bool b, by simp⟩
  | .int i, _, _, h, _, r => by
    cases h
    obtain ⟨t, rfl⟩ := r
    exact ⟨[], by rw [py]; exact .int i t, by simp⟩
  | .str x, _, _, h, _, r => by
    cases h
    obtain ⟨t, rfl⟩ := r
    exact ⟨[], by rw [py]; exact .str x t, by simp⟩
  | .ty n, _, _, _, h, _ => by rw [noTy] at h; exact nomatch h
  | .lsq n, _, _, _, h, _ => by rw [noTy] at h; exact nomatch h
  | .dcT n, _, _, _, h, _ => by rw [noTy] at h; exact nomatch h
  | .ins _ _ _ n, _, _, _, h, _ => by rw [noTy] at h; exact nomatch h
  | .tpk _, _, _, _, h, _ => by rw [noTy] at h; exact nomatch h
  | .lst ds, _, _, h, ht, r => by
    cases h with
    | lst hs hr =>
      cases r
      obtain ⟨_, its, n, rv, hg⟩ := (show ObjOk X.prog X.w H s.heap _ (.lst _) from I.hok _ _ hs)
      obtain ⟨as, q1, q2⟩ := RpL.reads I hb ds _ its hr (by rw [noTy] at ht; exact ht) rv
      refine ⟨_, by rw [py]; exact .list hg rfl rfl q1, ?_⟩
      simp only [List.mem_cons, not_or]
      exact ⟨fun z => not_sys I hb hs z.symm, q2⟩
  | .tup ds, _, _, h, ht, r => by
    cases h with
    | tup hs hr =>
      cases r
      obtain ⟨its, rv, ⟨o, ho, hc, n, hd⟩, _⟩ := I.tuple hs.sq
      obtain ⟨as, q1, q2⟩ := RpL.reads I hb ds _ its hr (by rw [noTy] at ht; exact ht) rv
      exact ⟨_, by rw [py]; exact .tuple ho hc hd q1, q2⟩
  | .dct ds, _, _, h, ht, r => by
    cases h with
    | dct hs hr =>
      cases r
      obtain ⟨_, _, vs, kv, o, es, ep, hg, hx, hd, _, hp, _⟩ := (show ObjOk X.prog X.w H s.heap _ (.dK _) from hs.ok I.hok)
      obtain ⟨as, q1, q2⟩ := RpK.reads I hb ds _ es.toList vs hr (by rw [noTy] at ht; exact ht) hp kv
      refine ⟨_, by rw [py]; exact .dict hg hx.1 hd (keys_read hp kv hr) q1, ?_⟩
      simp only [List.append_nil, List.cons_append, List.nil_append, List.mem_cons, not_or]
      exact ⟨fun z => (by rcases hs with hs | ⟨_, hs⟩ <;> exact not_sys I hb hs z.symm), q2⟩
theorem RpL.reads (I : Inv X pins σ H s) (hb : SysB X.base) : ∀ (ds : List D) (vs : List V) (us : List Value), RpL X.K H vs ds → noTyL ds = true → Vals vs us → ∃ as, ReadsAll s.heap us (pyL ds) as ∧ sysModules ∉ as
  | [], _, _, h, _, r => by
    cases h; cases r
    exact ⟨[], by rw [pyL]; exact .nil, by simp⟩
  | d :: ds, _, _, h, ht, r => by
    cases h with
    | cons h1 h2 =>
      cases r with
      | cons r1 r2 =>
        rw [noTyL, Bool.and_eq_true] at ht
        obtain ⟨as, q1, q2⟩ := Rp.reads I hb d _ _ h1 ht.1 r1
        obtain ⟨bs, p1, p2⟩ := RpL.reads I hb ds _ _ h2 ht.2 r2
        exact ⟨_, by rw [pyL]; exact .cons q1 p1, by simp only [List.mem_append, not_or]; exact ⟨q2, p2⟩⟩
theorem RpK.reads (I : Inv X pins σ H s) (hb : SysB X.base) : ∀ (ds : List (Key × D)) (vs : List (Key × V)) (es : List DictEntry) (kvs : List (Key × Value)), RpK X.K H vs ds → noTyK ds = true → Pairs (mixKind X.prog X.w) es kvs → KV vs kvs →
    ∃ as, ReadsAll s.heap (es.map (·.val)) ((pyK ds).map (·.2)) as ∧ sysModules ∉ as
  | [], _, _, _, h, _, p, r => by
    cases h; cases r; cases p
    exact ⟨[], by rw [pyK]; exact .nil, by simp⟩
  | (k, d) :: ds, _, _, _, h, ht, p, r => by
    cases h with
    | cons h1 h2 =>
      cases r with
      | cons r1 r2 =>
        cases p with
        | cons a b c =>
          rw [noTyK, Bool.and_eq_true] at ht
          obtain ⟨as, q1, q2⟩ := Rp.reads I hb d _ _ h1 ht.1 r1.2
          obtain ⟨bs, p1, p2⟩ := RpK.reads I hb ds _ _ _ h2 ht.2 c r2
          rw [← b] at q1
          exact ⟨_, by rw [pyK]; exact .cons q1 p1, by simp only [List.mem_append, not_or]; exact ⟨q2, p2⟩⟩
end
end

/-! ## repr -/
def canShow (d : D) : Bool := noTy d && (py d).showable && decide ((py d).depth ≤ 100) && decide ((py d).shown.length ≤ sizeLine)
def rRepr (K : PySem.W.Frag) : List V → Hp → VK → Prop := fun xs H Q => ∃ v d, xs = [v] ∧ Rp K H v d ∧ canShow d = true ∧ Q (.str (py d).shown) H
theorem call_repr {X : Cx} (gu : X.A.guards = some []) (hu : X.A.units + 200 < cLine) (hb : SysB X.base) : CallR X (.builtin "repr") (rRepr X.K) := by
  intro pins s σ H xs us Q I r h
  obtain ⟨v, d, rfl, rp, cs, q⟩ := h
  obtain ⟨u, rfl, ru⟩ := vals1 r
  simp only [canShow, Bool.and_eq_true, decide_eq_true_eq] at cs
  obtain ⟨⟨⟨c1, c2⟩, c3⟩, c4⟩ := cs
  obtain ⟨as, rd, ns⟩ := Rp.reads I hb d v u rp c1 ru
  have q0 := q
  cases rp with
  | non =>
    cases ru
    refine PySem.P.repr_of_none ⟨.str _, H, I.tok _, ⟨_, rfl⟩, ?_⟩
    rw [py] at q; simpa [PyData.shown] using q
  | bl b =>
    cases ru
    refine PySem.P.repr_of_bool ⟨.str _, H, I.tok _, ⟨_, rfl⟩, ?_⟩
    rw [py] at q; simpa [PyData.shown] using q
  | int i =>
    obtain ⟨t, rfl⟩ := ru
    refine PySem.P.repr_of_int (by rw [py] at c2; simpa [PyData.showable] using c2) ⟨.str _, H, I.tok _, ⟨_, rfl⟩, ?_⟩
    rw [py] at q; simpa [PyData.shown] using q
  | str x =>
    obtain ⟨t, rfl⟩ := ru
    refine PySem.P.repr_of_str ⟨.str _, H, I.tok _, ⟨_, rfl⟩, ?_⟩ (by rw [py] at c4; simpa [PyData.shown] using c4)
    rw [py] at q; simpa [PyData.shown] using q
  | ty n => rw [noTy] at c1; exact nomatch c1
  | lsq _ _ => rw [noTy] at c1; exact nomatch c1
  | dcT _ _ => rw [noTy] at c1; exact nomatch c1
  | ins _ _ => rw [noTy] at c1; exact nomatch c1
  | tpk _ _ => rw [noTy] at c1; exact nomatch c1
  | lst hs hr => cases ru; exact repr_of_reads' rd c2 (fun _ => ns) gu (by omega) (fun _ _ e => e) (fun h' u tk hk => ⟨.str _, H, I.kept hk, ⟨_, rfl⟩, q⟩) c4
  | tup hs hr => cases ru; exact repr_of_reads' rd c2 (fun _ => ns) gu (by omega) (fun _ _ e => e) (fun h' u tk hk => ⟨.str _, H, I.kept hk, ⟨_, rfl⟩, q⟩) c4
  | dct hs hr => cases ru; exact repr_of_reads' rd c2 (fun _ => ns) gu (by omega) (fun _ _ e => e) (fun h' u tk hk => ⟨.str _, H, I.kept hk, ⟨_, rfl⟩, q⟩) c4
end FR
namespace FR
open PySem L2
variable [TheW]

/-! ## operations on data -/
def tyName : D → String
  | .non => "NoneType"
  | .bl _ => "bool"
  | .int _ => "int"
  | .str _ => "str"
  | .lst _ => "list"
  | .tup _ => "tuple"
  | .dct _ => "dict"
  | .ty _ => "type"
  | .lsq _ => "list"
  | .dcT _ => "dict"
  | .ins _ _ _ _ => "type"
  | .tpk _ => "type"
/-- is it of this class -/
def instD (x : D) (n : String) : Bool := tyName x == n || (n == "int" && tyName x == "bool")
def isTy : D → Bool
  | .ty _ => true
  | .ins _ _ _ _ => true
  | .tpk _ => true
  | .dcT _ => true
  | _ => false
def cutD (xs : List D) (lo hi : Option Int) : List D := (xs.drop (HT.sIx xs.length 0 lo)).take (HT.sIx xs.length xs.length hi - HT.sIx xs.length 0 lo)
def flatD : D → Bool
  | .non => true
  | .bl _ => true
  | .int _ => true
  | .str _ => true
  | _ => false
def eqD : D → D → Bool
  | .non, .non => true
  | .bl a, .bl b => a == b
  | .bl a, .int b => (if a then 1 else 0) == b
  | .int a, .bl b => a == (if b then 1 else 0)
  | .int a, .int b => a == b
  | .str a, .str b => a == b
  | _, _ => false
def inD (x : D) (xs : List D) : Bool := xs.any fun y => eqD y x
mutual
def noDct : D → Bool
  | .ty _ => false
  | .lsq _ => false
  | .dct _ => false
  | .dcT _ => false
  | .ins _ _ _ _ => false
  | .tpk _ => false
  | .lst xs => noDctL xs
  | .tup xs => noDctL xs
  | _ => true
def noDctL : List D → Bool
  | [] => true
  | x :: xs => noDct x && noDctL xs
end

section
variable {K : PySem.W.Frag} {H : Hp} {x y : D} {v u : V}
theorem Rp.flat (h : Rp K H v x) (f : flatD x = true) : flatV v = true ∧ ∀ y u, Rp K H u y → flatD y = true → eqV u v = eqD y x := by
  cases h with
  | non => exact ⟨rfl, fun y u r g => by cases r <;> first | rfl | cases g⟩
  | bl b => exact ⟨rfl, fun y u r g => by cases r <;> first | rfl | cases g⟩
  | int b => exact ⟨rfl, fun y u r g => by cases r <;> first | rfl | cases g⟩
  | str b => exact ⟨rfl, fun y u r g => by cases r <;> first | rfl | cases g⟩
  | lst _ _ => cases f
  | tup _ _ => cases f
  | dct _ _ => cases f
  | ty _ => cases f
  | lsq _ _ => cases f
  | dcT _ _ => cases f
  | ins _ _ => cases f
  | tpk _ _ => cases f
theorem RpL.flat : ∀ {vs : List V} {ds : List D}, RpL K H vs ds → ds.all flatD = true → vs.all flatV = true
  | _, _, .nil, _ => rfl
  | _, _, .cons a b, f => by
    rw [List.all_cons, Bool.and_eq_true] at f ⊢
    exact ⟨(a.flat f.1).1, RpL.flat b f.2⟩
theorem RpL.inV : ∀ {vs : List V} {ds : List D}, RpL K H vs ds → ds.all flatD = true → Rp K H v x → flatD x = true → L2.inV v vs = inD x ds
  | _, _, .nil, _, _, _ => rfl
  | _, _, .cons a b, f, h, g => by
    rw [List.all_cons, Bool.and_eq_true] at f
    unfold L2.inV inD
    rw [List.any_cons, List.any_cons, (h.flat g).2 _ _ a f.1]
    congr 1
    exact RpL.inV b f.2 h g
mutual
theorem Rp.dp' : ∀ (x : D) {v : V}, Rp K H v x → noDct x = true → Dp K H v (py x)
  | .non, _, r, _ => by cases r; rw [py]; exact .non
  | .bl b, _, r, _ => by cases r; rw [py]; exact .bl b
  | .int b, _, r, _ => by cases r; rw [py]; exact .int b
  | .str b, _, r, _ => by cases r; rw [py]; exact .str b
  | .ty b, _, r, h => by rw [noDct] at h; cases h
  | .lsq _, _, r, h => by rw [noDct] at h; cases h
  | .dct _, _, r, h => by rw [noDct] at h; cases h
  | .dcT _, _, r, h => by rw [noDct] at h; cases h
  | .ins _ _ _ _, _, r, h => by rw [noDct] at h; cases h
  | .tpk _, _, r, h => by rw [noDct] at h; cases h
  | .lst xs, _, r, h => by
    cases r with
    | lst a b => rw [py]; exact .lst (.inl (.inl a)) (RpL.dp' xs b (by rw [noDct] at h; exact h))
  | .tup xs, _, r, h => by
    cases r with
    | tup a b => rw [py]; exact .tup a.sq (RpL.dp' xs b (by rw [noDct] at h; exact h))
theorem RpL.dp' : ∀ (x : List D) {v : List V}, RpL K H v x → noDctL x = true → DpAll K H v (pyL x)
  | [], _, r, _ => by cases r; rw [pyL]; exact .nil
  | x :: xs, _, r, h => by
    rw [noDctL, Bool.and_eq_true] at h
    cases r with
    | cons a b =>
      rw [pyL]
      exact .cons (Rp.dp' x a h.1) (RpL.dp' xs b h.2)
end
theorem Rp.dp {v : V} {x : D} (r : Rp K H v x) (h : noDct x = true) : Dp K H v (py x) := Rp.dp' x r h
theorem RpL.bls : ∀ {vs : List V} {bs : List Bool}, RpL K H vs (bs.map D.bl) → vs = bs.map V.bl
  | _, [], .nil => rfl
  | _, b :: bs, .cons h r => by
    have e := RpL.bls r
    cases h
    rw [e]; rfl
theorem RpL.ints : ∀ {vs : List V} {bs : List Int}, RpL K H vs (bs.map D.int) → vs = bs.map V.int
  | _, [], .nil => rfl
  | _, b :: bs, .cons h r => by
    have e := RpL.ints r
    cases h
    rw [e]; rfl
theorem RpL.cut {vs : List V} {ds : List D} (h : RpL K H vs ds) (lo hi : Option Int) : RpL K H (cutV vs lo hi) (cutD ds lo hi) := by
  unfold cutV cutD
  rw [h.len]
  exact (h.drop _).take _
theorem Rp.ty_of (h : Rp K H v x) (t : isTy x = false) : TyX K H v (.type (tyName x)) := by
  cases h with
  | non => exact .base .non
  | bl b => exact .base (.bl b)
  | int b => exact .base (.int b)
  | str b => exact .base (.str b)
  | lst a _ => exact .base (.lst a)
  | tup a _ =>
    obtain ⟨o, a, _⟩ := a
    exact .fTuple a
  | dct a _ =>
    rcases a with a | ⟨o, a⟩
    · exact .base (.dK a)
    · exact .fDict a
  | lsq a _ =>
    rcases a with (a | ⟨o, a⟩) | ⟨o, its, n, a, c, _⟩
    · exact .base (.lst a)
    · exact .base (.frz a)
    · exact .kList a c
  | ty n => cases t
  | dcT _ _ => cases t
  | ins _ _ => cases t
  | tpk _ _ => cases t
end

theorem kit_N : ∀ a ∈ ["NoneType", "bool", "int", "str", "list", "tuple", "dict"], ∀ n ∈ ["int", "bool", "str", "tuple", "list", "dict"], kitB a n = some (a == n || (n == "int" && a == "bool")) := by decide +kernel
theorem kit_D {x : D} {n : String} (t : isTy x = false) (h : n ∈ ["int", "bool", "str", "tuple", "list", "dict"]) : kitB (tyName x) n = some (instD x n) :=
  kit_N (tyName x) (by cases x <;> first | (cases t; done) | simp [tyName]) n h

section
variable {W : Wo} {n m : Nat} {env stk : List E} {σ : St} {ds : List D} {vs : St} {us : List V} {H H' : Hp} {d x y : D} {v vx vy : V} {i : Nat} {Φ : D → Nat → Prop} {r : R2}

theorem op2_any {xs : List D} (hr : ∀ env σ stk vs vx vy H (Q : VK), Wd W n env σ (.d y :: .d x :: stk) (some vy :: some vx :: vs) H → (∀ v d n' H', Φ d n' → Wd W n' env σ (.d d :: stk) (some v :: vs) H' → Q v H') → r vx vy H Q) : Op2 W r n x y Φ := hr
theorem opN1 {r : List V → Hp → VK → Prop} (h : Op1 W (fun v => r [v]) n x Φ) : OpN W r n [x] Φ := fun env σ stk vs us H Q l w k => by
  match us, l with
  | [u], _ => exact h env σ stk vs u H Q w k
theorem opN2 {r : List V → Hp → VK → Prop} (h : Op2 W (fun v u => r [v, u]) n x y Φ) : OpN W r n [x, y] Φ := fun env σ stk vs us H Q l w k => by
  match us, l with
  | [u, u'], _ =>
    refine h env σ stk vs u u' H Q (Wd.restk (ds := [x, y]) (us := [u, u']) (ds' := [y, x]) (us' := [u', u]) w rfl fun U _ r => ?_) k
    cases r with
    | cons r1 r2 =>
      cases r2 with
      | cons r2 r3 => exact .cons r2 (.cons r1 .nil)
theorem op1_pure {r : V → Hp → VK → Prop} {v : V} {d : D} (hr : ∀ vx H (Q : VK), Rp W.K H vx x → Q v H → r vx H Q) (hd : ∀ K U, Rp K U v d) (q : Φ d n) : Op1 W r n x Φ := fun env σ stk vs vx H Q w k =>
  hr vx H Q w.top (k _ _ n H q (w.pop.push fun U _ => hd _ U))
/-- a part of what is on the stack -/
theorem Wd.part (w : Wd W n env σ (.d x :: stk) (some vx :: vs) H) (f : ∀ U : Hp, Same U H → Rp W.K U vx x → Rp W.K U v d) : Wd W n env σ (.d d :: stk) (some v :: vs) H :=
  Wd.restk (ds := [x]) (us := [vx]) (ds' := [d]) (us' := [v]) w rfl fun U s r => by
    cases r with
    | cons r _ => exact .cons (f U s r) .nil

theorem op_isi {n' : String} (t : isTy x = false) (hn : n' ∈ ["int", "bool", "str", "tuple", "list", "dict"]) (q : Φ (.bl (instD x n')) n) : OpN W (rIsi W.K) n [x, .ty n'] Φ :=
  opN2 (op2_pure (fun vx vy H Q h1 h2 k => by
    cases h2
    exact ⟨_, _, _, _, _, rfl, .ty n', h1.ty_of t, kit_ty (kit_D t hn), k⟩) (fun _ _ => .bl _) q)
theorem op_len_s {z : Str} (hz : z.length ≤ sizeLine) (q : Φ (.int z.length) n) : OpN W (fun xs H Q => ∃ x n, xs = [x] ∧ LenV W.K x H n ∧ Q (.int n) H) n [.str z] Φ :=
  opN1 (op1_pure (fun vx H Q h k => by
    cases h
    exact ⟨_, _, rfl, ⟨hz, rfl⟩, k⟩) (fun _ _ => .int _) q)
theorem op_len_t {xs : List D} (q : Φ (.int xs.length) n) : OpN W (fun xs H Q => ∃ x n, xs = [x] ∧ LenV W.K x H n ∧ Q (.int n) H) n [.tup xs] Φ :=
  opN1 (op1_pure (v := .int xs.length) (fun vx H Q h k => by
    cases h with
    | tup a b => exact ⟨_, _, rfl, .inr ⟨_, a.sq, b.len.symm⟩, k⟩) (fun _ _ => .int _) q)
theorem op_len_l {xs : List D} (q : Φ (.int xs.length) n) : OpN W (fun xs H Q => ∃ x n, xs = [x] ∧ LenV W.K x H n ∧ Q (.int n) H) n [.lst xs] Φ :=
  opN1 (op1_pure (v := .int xs.length) (fun vx H Q h k => by
    cases h with
    | lst a b => exact ⟨_, _, rfl, .inl ⟨_, .inl (.inl a), b.len.symm⟩, k⟩) (fun _ _ => .int _) q)
theorem op_all {bs : List Bool} (q : Φ (.bl (bs.all id)) n) : OpN W (rAll W.K) n [.lst (bs.map D.bl)] Φ :=
  opN1 (op1_pure (fun vx H Q h k => by
    cases h with
    | lst a b => rw [b.bls] at a; exact ⟨_, bs, rfl, .inl (.inl a), k⟩) (fun _ _ => .bl _) q)
theorem op_any {bs : List Bool} (q : Φ (.bl (bs.any id)) n) : OpN W (rAny W.K) n [.lst (bs.map D.bl)] Φ :=
  opN1 (op1_pure (fun vx H Q h k => by
    cases h with
    | lst a b => rw [b.bls] at a; exact ⟨_, bs, rfl, .inl (.inl a), k⟩) (fun _ _ => .bl _) q)
theorem op_repr (c : canShow x = true) (q : Φ (.str (py x).shown) n) : OpN W (rRepr W.K) n [x] Φ :=
  opN1 (op1_pure (fun vx H Q h k => ⟨_, _, rfl, h, c, k⟩) (fun _ _ => .str _) q)
theorem op_eqd (c1 : noDct x = true) (c2 : noDct y = true) (s1 : SeqAt.shaped (py x) = true) (s2 : SeqAt.shaped (py y) = true) (q : Φ (.bl (PyData.eqv (py x) (py y))) n) : Op2 W (rEqD W.K) n x y Φ :=
  op2_pure (fun vx vy H Q h1 h2 k => ⟨_, _, h1.dp c1, h2.dp c2, s1, s2, k⟩) (fun _ _ => .bl _) q
theorem op_ned (c1 : noDct x = true) (c2 : noDct y = true) (s1 : SeqAt.shaped (py x) = true) (s2 : SeqAt.shaped (py y) = true) (q : Φ (.bl (!PyData.eqv (py x) (py y))) n) : Op2 W (rNeD W.K) n x y Φ :=
  op2_pure (fun vx vy H Q h1 h2 k => ⟨_, _, h1.dp c1, h2.dp c2, s1, s2, k⟩) (fun _ _ => .bl _) q
def scalD : D → D → Bool
  | .non, .non => true | .non, .int _ => true | .int _, .non => true | .non, .bl _ => true | .bl _, .non => true | .non, .str _ => true | .str _, .non => true
  | .int _, .int _ => true | .bl _, .bl _ => true | .str _, .str _ => true
  | .int _, .str _ => true | .str _, .int _ => true | .bl _, .str _ => true | .str _, .bl _ => true
  | _, _ => false
theorem scal_dec {H : Hp} (s : scalD x y = true) (h1 : Rp W.K H vx x) (h2 : Rp W.K H vy y) : scal vx vy = true ∧ decide (vx = vy) = eqD x y := by
  cases h1 <;> cases h2 <;> first
    | (cases s; done)
    | exact ⟨rfl, by rw [Bool.eq_iff_iff]; simp [eqD]⟩
theorem op_eqs (s : scalD x y = true) (q : Φ (.bl (eqD x y)) n) : Op2 W rEq n x y Φ := fun env σ stk vs vx vy H Q w k => by
  obtain ⟨e1, e2⟩ := scal_dec s w.pop.top w.top
  exact ⟨e1, by rw [e2]; exact k _ _ n H q (w.pop.pop.push fun U _ => .bl _)⟩
theorem op_nes (s : scalD x y = true) (q : Φ (.bl (!eqD x y)) n) : Op2 W rNe n x y Φ := fun env σ stk vs vx vy H Q w k => by
  obtain ⟨e1, e2⟩ := scal_dec s w.pop.top w.top
  exact ⟨e1, by rw [e2]; exact k _ _ n H q (w.pop.pop.push fun U _ => .bl _)⟩
def isNon : D → Bool
  | .non => true
  | _ => false
theorem isNon_dec {H : Hp} (h : Rp W.K H vx x) : decide (vx = .non) = isNon x := by
  cases h <;> simp [isNon]
theorem op_is (q : Φ (.bl (isNon x)) n) : Op2 W (fun x y H Q => y = .non ∧ Q (.bl (decide (x = .non))) H) n x .non Φ := fun env σ stk vs vx vy H Q w k => by
  have h := w.top
  cases h
  exact ⟨rfl, by rw [isNon_dec w.pop.top]; exact k _ _ n H q (w.pop.pop.push fun U _ => .bl _)⟩
theorem op_isnt (q : Φ (.bl (!isNon x)) n) : Op2 W (fun x y H Q => y = .non ∧ Q (.bl (!decide (x = .non))) H) n x .non Φ := fun env σ stk vs vx vy H Q w k => by
  have h := w.top
  cases h
  exact ⟨rfl, by rw [isNon_dec w.pop.top]; exact k _ _ n H q (w.pop.pop.push fun U _ => .bl _)⟩
theorem op_lts {a b : Str} (q : Φ (.bl (decide (a.cps.toList < b.cps.toList))) n) : Op2 W (fun x y H Q => ∃ i j, x = .str i ∧ y = .str j ∧ Q (.bl (decide (i.cps.toList < j.cps.toList))) H) n (.str a) (.str b) Φ :=
  op2_pure (fun vx vy H Q h1 h2 k => by cases h1; cases h2; exact ⟨_, _, rfl, rfl, k⟩) (fun _ _ => .bl _) q
theorem op_ges {a b : Str} (q : Φ (.bl (!decide (a.cps.toList < b.cps.toList))) n) : Op2 W (fun x y H Q => ∃ i j, x = .str i ∧ y = .str j ∧ Q (.bl (!decide (i.cps.toList < j.cps.toList))) H) n (.str a) (.str b) Φ :=
  op2_pure (fun vx vy H Q h1 h2 k => by cases h1; cases h2; exact ⟨_, _, rfl, rfl, k⟩) (fun _ _ => .bl _) q
theorem op_sign {c : Nat} {z : Str} (q : Φ (.bl (decide (c ∈ z.cps.toList))) n) : Op2 W (fun x y H Q => ∃ c z, x = .str ⟨#[c]⟩ ∧ y = .str z ∧ Q (.bl (decide (c ∈ z.cps.toList))) H) n (.str ⟨#[c]⟩) (.str z) Φ :=
  op2_pure (fun vx vy H Q h1 h2 k => by cases h1; cases h2; exact ⟨_, _, rfl, rfl, k⟩) (fun _ _ => .bl _) q
theorem op_inT {xs : List D} (f : flatD x = true) (g : xs.all flatD = true) (q : Φ (.bl (inD x xs)) n) : Op2 W (rIn W.K false) n x (.tup xs) Φ :=
  op2_pure (fun vx vy H Q h1 h2 k => by
    cases h2 with
    | tup a b => exact ⟨_, _, rfl, .inr a.sq, (h1.flat f).1, b.flat g, by rw [if_neg (by decide), b.inV g h1 f]; exact k⟩) (fun _ _ => .bl _) q
theorem op_inL {xs : List D} (f : flatD x = true) (g : xs.all flatD = true) (q : Φ (.bl (inD x xs)) n) : Op2 W (rIn W.K false) n x (.lst xs) Φ :=
  op2_pure (fun vx vy H Q h1 h2 k => by
    cases h2 with
    | lst a b => exact ⟨_, _, rfl, .inl (.inl (.inl a)), (h1.flat f).1, b.flat g, by rw [if_neg (by decide), b.inV g h1 f]; exact k⟩) (fun _ _ => .bl _) q
theorem Wd.view (w : Wd W n env σ (ds.map E.d ++ stk) (us.map some ++ vs) H) (l : us.length = ds.length) : ∃ U, Same U H ∧ RpL W.K U us ds ∧ (∀ us' ds', RpL W.K U us' ds' → Wd W n env σ (ds'.map E.d ++ stk) (us'.map some ++ vs) H) ∧
    ∀ p o, H p = Option.none → ∃ U', Same U U' ∧ U' p = some o ∧ ∀ us' ds', RpL W.K U' us' ds' → Wd W n env σ (ds'.map E.d ++ stk) (us'.map some ++ vs) (upd H p o) := by
  have hid := w.hidH
  have w0 := w
  obtain ⟨k, h, pp, M1, M2, a, nd, b, c⟩ := w
  obtain ⟨c1, c2⟩ := EnvOk.toL l c
  refine ⟨_, era_sub _ _, c1, fun us' ds' r => ⟨k, h, pp, M1, M2, a, nd, b, EnvOk.ofL r c2⟩, fun p o hp => ?_⟩
  have e : Same H (upd H p o) := same_new hp
  refine ⟨era (upd H p o) (W.M0 ++ (M1 ++ M2)), era_mono _ e, era_of upd_same fun z => ?_, fun us' ds' r => ?_⟩
  · rcases List.mem_append.mp z with z | z
    · exact hid p z hp
    · exact (a p z).2 hp
  · refine ⟨fun b o n q => e _ _ (k b o n q), h, fun q hq => ⟨(pp q hq).1, (pp q hq).2.mono e⟩, M1, M2, fun q hq => ⟨(a q hq).1, fun z => ?_⟩, nd, b.mono (era_mono _ e) e, EnvOk.ofL r (c2.mono (era_mono _ e) e)⟩
    cases r : H q with
    | none => exact (a q hq).2 r
    | some o => rw [e _ _ r] at z; cases z
theorem Wd.view1 (w : Wd W n env σ (.d x :: stk) (some vx :: vs) H) : ∃ U, Same U H ∧ Rp W.K U vx x ∧ (∀ v d, Rp W.K U v d → Wd W n env σ (.d d :: stk) (some v :: vs) H) ∧
    ∀ p o, H p = Option.none → ∃ U', Same U U' ∧ U' p = some o ∧ ∀ v d, Rp W.K U' v d → Wd W n env σ (.d d :: stk) (some v :: vs) (upd H p o) := by
  obtain ⟨U, s, r, f, g⟩ := Wd.view (ds := [x]) (us := [vx]) w rfl
  cases r with
  | cons r _ =>
    refine ⟨U, s, r, fun v d q => f [v] [d] (.cons q .nil), fun p o hp => ?_⟩
    obtain ⟨U', s', e, g⟩ := g p o hp
    exact ⟨U', s', e, fun v d q => g [v] [d] (.cons q .nil)⟩
theorem Wd.view2 (w : Wd W n env σ (.d y :: .d x :: stk) (some vy :: some vx :: vs) H) : ∃ U, Same U H ∧ Rp W.K U vx x ∧ Rp W.K U vy y ∧ (∀ v d, Rp W.K U v d → Wd W n env σ (.d d :: stk) (some v :: vs) H) ∧
    ∀ p o, H p = Option.none → ∃ U', Same U U' ∧ U' p = some o ∧ ∀ v d, Rp W.K U' v d → Wd W n env σ (.d d :: stk) (some v :: vs) (upd H p o) := by
  obtain ⟨U, s, r, f, g⟩ := Wd.view (ds := [y, x]) (us := [vy, vx]) w rfl
  cases r with
  | cons r r2 =>
    cases r2 with
    | cons r2 _ =>
      refine ⟨U, s, r2, r, fun v d q => f [v] [d] (.cons q .nil), fun p o hp => ?_⟩
      obtain ⟨U', s', e, g⟩ := g p o hp
      exact ⟨U', s', e, fun v d q => g [v] [d] (.cons q .nil)⟩
theorem op_ixT {xs : List D} {i : Int} (e : atI xs i = some d) (q : Φ d n) : Op2 W (rIxT W.K) n (.tup xs) (.int i) Φ := fun env σ stk vs vx vy H Q w k => by
  obtain ⟨U, s, h2, h1, f, _⟩ := w.view2
  cases h1
  cases h2 with
  | tup a b =>
    unfold atI at e
    obtain ⟨j, e1, e2⟩ := Option.bind_eq_some_iff.mp e
    obtain ⟨u, e3, r⟩ := b.get e2
    exact ⟨_, _, i, u, rfl, rfl, same_sqT s a, by unfold atI; rw [b.len, e1]; exact e3, k _ _ n H q (f _ _ r)⟩
theorem op_ixL {xs : List D} {i : Int} (e : atI xs i = some d) (q : Φ d n) : Op2 W (rIxL W.K) n (.lst xs) (.int i) Φ := fun env σ stk vs vx vy H Q w k => by
  obtain ⟨U, s, h2, h1, f, _⟩ := w.view2
  cases h1
  cases h2 with
  | lst a b =>
    unfold atI at e
    obtain ⟨j, e1, e2⟩ := Option.bind_eq_some_iff.mp e
    obtain ⟨u, e3, r⟩ := b.get e2
    exact ⟨_, _, i, u, rfl, rfl, .inl (.inl (s _ _ a)), by unfold atI; rw [b.len, e1]; exact e3, k _ _ n H q (f _ _ r)⟩
theorem op_len_q {xs : List D} (q : Φ (.int xs.length) n) : OpN W (fun xs H Q => ∃ x n, xs = [x] ∧ LenV W.K x H n ∧ Q (.int n) H) n [.lsq xs] Φ :=
  opN1 (op1_pure (v := .int xs.length) (fun vx H Q h k => by
    cases h with
    | lsq a b => exact ⟨_, _, rfl, .inl ⟨_, a, b.len.symm⟩, k⟩) (fun _ _ => .int _) q)
theorem op_ixLq {xs : List D} {i : Int} (e : atI xs i = some d) (q : Φ d n) : Op2 W (rIxL W.K) n (.lsq xs) (.int i) Φ := fun env σ stk vs vx vy H Q w k => by
  obtain ⟨U, s, h2, h1, f, _⟩ := w.view2
  cases h1
  cases h2 with
  | lsq a b =>
    unfold atI at e
    obtain ⟨j, e1, e2⟩ := Option.bind_eq_some_iff.mp e
    obtain ⟨u, e3, r⟩ := b.get e2
    exact ⟨_, _, i, u, rfl, rfl, Same.seq s a, by unfold atI; rw [b.len, e1]; exact e3, k _ _ n H q (f _ _ r)⟩
theorem op_ixQ {i : Int} (h : Op2 W (rIxT W.K) n x y Φ ∨ Op2 W (rIxL W.K) n x y Φ) : Op2 W (rIx W.K) n x y Φ := fun env σ stk vs vx vy H Q w k => by
  rcases h with h | h
  · exact .inr (.inl (h env σ stk vs vx vy H Q w k))
  · exact .inl (h env σ stk vs vx vy H Q w k)
theorem wp_slT {te : TE} {tl th : TO} (q : Wp W te n env fun x n1 => ∃ xs, x = .tup xs ∧ WpO W tl n1 env fun lo n2 => WpO W th n2 env fun hi n3 => Φ (.tup (cutD xs lo hi)) n3) : Wp W (tSl (rSlP W.K) te tl th) n env Φ := fun σ stk vs H Q w k =>
  q σ stk vs H _ w fun v d n1 H1 q1 w1 => by
    obtain ⟨xs, rfl, q1⟩ := q1
    refine q1 σ _ _ H1 _ w1 fun lo n2 H2 q2 w2 => q2 σ _ _ H2 _ w2 fun hi n3 H3 q3 w3 => ?_
    obtain ⟨U, s, h, f, g⟩ := w3.view1
    cases h with
    | tup a b =>
      refine ⟨_, _, rfl, same_sqT s a, fun hw => k _ _ n3 H3 q3 (f _ _ ?_), fun hw p o hp hd => ?_⟩
      · have e : cutD xs lo hi = xs := by
          unfold cutD
          rw [b.len] at hw
          rw [hw.1, hw.2]
          simp
        rw [e]
        exact .tup a b
      · obtain ⟨U', s', e, g⟩ := g p (.frz o (.tup (cutV _ lo hi))) hp
        exact k _ _ n3 _ q3 (g _ _ (.tup ⟨o, e, hd⟩ ((b.cut lo hi).mono s')))
theorem op_cT {xs ys : List D} (l : xs.length + ys.length ≤ sizeLine) (q : Φ (.tup (xs ++ ys)) n) : Op2 W (rCatP W.K) n (.tup xs) (.tup ys) Φ := fun env σ stk vs vx vy H Q w k => by
  obtain ⟨U, s, h1, h2, f, g⟩ := w.view2
  cases h1 with
  | tup a b =>
    cases h2 with
    | tup a2 b2 =>
      refine ⟨_, _, _, _, rfl, rfl, same_sqT s a, same_sqT s a2, by rw [b.len, b2.len]; exact l, fun e => ?_, fun _ e => ?_, fun _ _ p o hp hd => ?_⟩
      · subst e
        cases b
        exact k _ _ n H q (f _ _ (.tup a2 b2))
      · subst e
        cases b2
        rw [List.append_nil] at q
        exact k _ _ n H q (f _ _ (.tup a b))
      · obtain ⟨U', s', e, g⟩ := g p (.frz o (.tup (_ ++ _))) hp
        exact k _ _ n _ q (g _ _ (.tup ⟨o, e, hd⟩ ((b.app b2).mono s')))
theorem op_cL {xs ys : List D} (l : xs.length + ys.length ≤ sizeLine) (q : Φ (.lst (xs ++ ys)) n) : Op2 W rCat n (.lst xs) (.lst ys) Φ := fun env σ stk vs vx vy H Q w k => by
  obtain ⟨U, s, h1, h2, f, g⟩ := w.view2
  cases h1 with
  | lst a b =>
    cases h2 with
    | lst a2 b2 =>
      refine ⟨_, _, _, _, rfl, rfl, s _ _ a, s _ _ a2, by rw [b.len, b2.len]; exact l, fun p hp => ?_⟩
      obtain ⟨U', s', e, g⟩ := g p (.lst (_ ++ _)) hp
      exact k _ _ n _ q (g _ _ (.lst e ((b.app b2).mono s')))
theorem op_tupleL {xs : List D} (q : Φ (.tup xs) n) : OpN W (rTupP W.K) n [.lst xs] Φ :=
  opN1 fun env σ stk vs vx H Q w k => by
    obtain ⟨U, s, h1, f, g⟩ := w.view1
    cases h1 with
    | lst a b =>
      refine ⟨_, _, rfl, .inl ⟨.inl (.inl (s _ _ a)), fun p o hp hd => ?_⟩⟩
      obtain ⟨U', s', e, g⟩ := g p (.frz o (.tup _)) hp
      exact k _ _ n _ q (g _ _ (.tup ⟨o, e, hd⟩ (b.mono s')))
theorem op_listT {xs : List D} (q : Φ (.lst xs) n) : OpN W (fun xs H Q => ∃ p ys, xs = [.ref p] ∧ (SqL W.K H p ys ∨ SqT W.K H p ys) ∧ ∀ l, H l = Option.none → Q (.ref l) (upd H l (.lst ys))) n [.tup xs] Φ :=
  opN1 fun env σ stk vs vx H Q w k => by
    obtain ⟨U, s, h1, f, g⟩ := w.view1
    cases h1 with
    | tup a b =>
      refine ⟨_, _, rfl, .inr (same_sqT s a), fun p hp => ?_⟩
      obtain ⟨U', s', e, g⟩ := g p (.lst _) hp
      exact k _ _ n _ q (g _ _ (.lst e (b.mono s')))

/-! ## what is walked -/
theorem ItD.same {K : PySem.W.Frag} {J : It} {xs : List V} {stk2 : List D} {vs2 : List V} {G : Hp → Prop} {Y : Nat → Hp → V → Hp → Prop} (hw : Walk J ds.length G Y) (hG : ∀ H, RpL K H vs2 stk2 → G H)
    (hY : ∀ i H x H', i < ds.length → Y i H x H' → H' = H ∧ ∃ d, ds[i]? = some d ∧ ∀ U, RpL K U vs2 stk2 → Same U H → Rp K U x d) : ItD K J ds stk2 vs2 :=
  ⟨G, Y, hw, hG, fun i H x H' hi _ y => by
    obtain ⟨rfl, d, e, r⟩ := hY i H x H' hi y
    exact ⟨d, e, Same.refl _, fun M _ rl => r _ rl (era_sub _ _)⟩⟩
theorem wi_tup {te : TE} {Φ : List D → Nat → Prop} (q : Wp W te n env fun x n1 => ∃ xs, x = .tup xs ∧ Φ xs n1) : WpI W (iTup W.K te) n env Φ := fun σ stk vs H R w k =>
  q σ stk vs H _ w fun v d n1 H1 q1 w1 => by
    obtain ⟨xs, rfl, q1⟩ := q1
    have t := w1.top
    cases t with
    | @tup a us _ hs hr =>
      refine ⟨a, rfl, ⟨_, hs.sq⟩, k _ xs n1 H1 [.tup xs] [.ref a] q1 rfl w1 (ItD.up ⟨?_⟩)⟩
      refine ⟨fun H => ∃ ws, SqT W.K H a ws ∧ ws.length = xs.length, fun i H x H' => H' = H ∧ ∀ ws, SqT W.K H a ws → ws[i]? = some x, ⟨?_, ?_, ?_⟩, ?_, ?_⟩
      · rintro i H hi ⟨ws, h1, h2⟩
        exact ⟨ws, ws[i]'(by omega), h1, by simp [show i < ws.length by omega]⟩
      · rintro H ⟨ws, h1, h2⟩
        exact ⟨ws, h1, by omega⟩
      · rintro i H x H' hi ⟨ws, h1, h2⟩ y
        exact y
      · intro H rl
        cases rl with
        | cons r _ =>
          cases r with
          | tup a b => exact ⟨_, a.sq, b.len⟩
      · rintro i H x H' hi rl ⟨rfl, y⟩
        refine ⟨xs[i], by simp [hi], Same.refl _, fun M _ rl2 => ?_⟩
        cases rl2 with
        | cons r _ =>
          cases r with
          | tup a b =>
            obtain ⟨u, e1, e2⟩ := b.get (i := i) (x := xs[i]) (by simp [hi])
            have e3 := y _ (same_sqT (era_sub _ _) a)
            rw [e1] at e3
            cases e3
            exact e2
theorem wi_list {te : TE} {Φ : List D → Nat → Prop} (q : Wp W te n env fun x n1 => ∃ xs, x = .lst xs ∧ Φ xs n1) : WpI W (iList W.K te) n env Φ := fun σ stk vs H R w k =>
  q σ stk vs H _ w fun v d n1 H1 q1 w1 => by
    obtain ⟨xs, rfl, q1⟩ := q1
    have t := w1.top
    cases t with
    | @lst a us _ hs hr =>
      refine ⟨a, rfl, ⟨_, .inl (.inl hs)⟩, k _ xs n1 H1 [.lst xs] [.ref a] q1 rfl w1 (ItD.up ⟨?_⟩)⟩
      refine ⟨fun H => ∃ ws, SqL W.K H a ws ∧ ws.length = xs.length, fun i H x H' => H' = H ∧ ∀ ws, SqL W.K H a ws → ws[i]? = some x, ⟨?_, ?_, ?_⟩, ?_, ?_⟩
      · rintro i H hi ⟨ws, h1, h2⟩
        exact ⟨ws, ws[i]'(by omega), h1, by simp [show i < ws.length by omega]⟩
      · rintro H ⟨ws, h1, h2⟩
        exact ⟨ws, h1, by omega⟩
      · rintro i H x H' hi ⟨ws, h1, h2⟩ y
        exact y
      · intro H rl
        cases rl with
        | cons r _ =>
          cases r with
          | lst a b => exact ⟨_, .inl (.inl a), b.len⟩
      · rintro i H x H' hi rl ⟨rfl, y⟩
        refine ⟨xs[i], by simp [hi], Same.refl _, fun M _ rl2 => ?_⟩
        cases rl2 with
        | cons r _ =>
          cases r with
          | lst a b =>
            obtain ⟨u, e1, e2⟩ := b.get (i := i) (x := xs[i]) (by simp [hi])
            have e3 := y _ (.inl (.inl (era_sub _ _ _ _ a)))
            rw [e1] at e3
            cases e3
            exact e2
def signs (z : Str) : List D := z.cps.toList.map fun c => D.str ⟨#[c]⟩
theorem wi_str {te : TE} {Φ : List D → Nat → Prop} (q : Wp W te n env fun x n1 => ∃ z, x = .str z ∧ Φ (signs z) n1) : WpI W (iStr te) n env Φ := fun σ stk vs H R w k =>
  q σ stk vs H _ w fun v d n1 H1 q1 w1 => by
    obtain ⟨z, rfl, q1⟩ := q1
    have t := w1.top
    cases t
    have hl : (signs z).length = z.cps.size := by simp [signs]
    refine ⟨z, rfl, k _ (signs z) n1 H1 [] [] q1 rfl w1.pop (ItD.up ⟨_, _, by rw [hl]; exact walk_str, fun _ _ => trivial, ?_⟩)⟩
    rintro i H x H' hi rl ⟨rfl, c, e1, rfl⟩
    refine ⟨.str ⟨#[c]⟩, ?_, Same.refl _, fun M _ _ => .str _⟩
    show (z.cps.toList.map fun c => D.str ⟨#[c]⟩)[i]? = _
    rw [List.getElem?_map, Array.getElem?_toList, e1]
    rfl
def rangeD (lo : Int) (k : Nat) : List D := (List.range k).map fun (i : Nat) => D.int (lo + i)
theorem wi_range {ta : TA} {Φ : List D → Nat → Prop} (q : WpA W ta n env fun ds n1 => ∃ j : Int, ds = [.int j] ∧ -(2 ^ 62) ≤ j ∧ j < 2 ^ 62 ∧ Φ (rangeD 0 j.toNat) n1) : WpI W (iRng1 ta) n env Φ := fun σ stk vs H R w k =>
  q σ stk vs H _ w fun us ds n1 H1 q1 l w1 => by
    obtain ⟨j, rfl, h1, h2, q1⟩ := q1
    have t := w1.sees l
    cases t with
    | cons a b =>
      cases a
      cases b
      have hl : (rangeD 0 j.toNat).length = j.toNat := by simp [rangeD]
      refine ⟨j, rfl, h1, h2, k _ (rangeD 0 j.toNat) n1 H1 [] [] q1 rfl w1.pop (ItD.up ⟨_, _, by rw [hl]; exact walk_range, fun _ _ => trivial, ?_⟩)⟩
      rintro i H x H' hi rl ⟨rfl, rfl⟩
      rw [hl] at hi
      exact ⟨.int (0 + i), by simp [rangeD, hi], Same.refl _, fun M _ _ => .int _⟩
def zipD (xs ys : List D) : List D := (xs.zip ys).map fun p => D.tpk [p.1, p.2]
theorem wi_zipT {ta : TA} {Φ : List D → Nat → Prop} (q : WpA W ta n env fun ds n1 => ∃ xs ys, ds = [.tup xs, .tup ys] ∧ Φ (zipD xs ys) n1) : WpI W (RZ.iZipA W.K ta) n env Φ := fun σ stk vs H R w k =>
  q σ stk vs H _ w fun us ds n1 H1 q1 l w1 => by
    obtain ⟨xs, ys, rfl, q1⟩ := q1
    have t := w1.sees l
    cases t with
    | cons a b =>
      cases b with
      | cons b c =>
        cases c
        cases a with
        | @tup a1 us1 _ a2 a3 =>
          cases b with
          | @tup b1 us2 _ b2 b3 =>
            have hl : (zipD xs ys).length = min xs.length ys.length := by simp [zipD]
            refine ⟨a1, b1, us1, us2, rfl, .inr ⟨a2.sq, b2.sq, k _ (zipD xs ys) n1 H1 [.tup xs, .tup ys] [.ref a1, .ref b1] q1 rfl w1 (ItD.up ⟨?_⟩)⟩⟩
            refine ⟨fun H => ∃ ws zs, SqT W.K H a1 ws ∧ ws.length = xs.length ∧ SqT W.K H b1 zs ∧ zs.length = ys.length, fun i H v H' => ∃ T x y, v = .ref T ∧ H T = Option.none ∧ H' = upd H T (.tup [x, y]) ∧ (∀ xs, SqT W.K H a1 xs → xs[i]? = some x) ∧ ∀ ys, SqT W.K H b1 ys → ys[i]? = some y, ⟨?_, ?_, ?_⟩, ?_, ?_⟩
            · rintro i H hi ⟨ws, zs, h1, h2, h3, h4⟩
              exact ⟨ws, zs, ws[i]'(by omega), zs[i]'(by omega), h1, h3, by simp [show i < ws.length by omega], by simp [show i < zs.length by omega]⟩
            · rintro H ⟨ws, zs, h1, h2, h3, h4⟩
              exact ⟨ws, zs, h1, h3, by omega⟩
            · rintro i H x H' hi ⟨ws, zs, h1, h2, h3, h4⟩ y
              exact y
            · intro H rl
              cases rl with
              | cons r r2 =>
                cases r2 with
                | cons r2 _ =>
                  cases r with
                  | tup a b =>
                    cases r2 with
                    | tup c d => exact ⟨_, _, a.sq, b.len, c.sq, d.len⟩
            · rintro i H v H' hi rl ⟨T, x, y, rfl, hT, rfl, y1, y2⟩
              have hx : i < xs.length := by omega
              have hy : i < ys.length := by omega
              refine ⟨.tpk [xs[i], ys[i]], by unfold zipD; rw [List.getElem?_map, List.getElem?_eq_getElem (by simp; omega), List.getElem_zip]; rfl, same_new hT, fun M hM rl2 => ?_⟩
              cases rl2 with
              | cons r r2 =>
                cases r2 with
                | cons r2 _ =>
                  cases r with
                  | tup a b =>
                    cases r2 with
                    | tup c d =>
                      obtain ⟨u, e1, e2⟩ := b.get (i := i) (x := xs[i]) (by simp [hx])
                      obtain ⟨u2, f1, f2⟩ := d.get (i := i) (x := ys[i]) (by simp [hy])
                      have e3 := y1 _ (same_sqT (era_sub _ _) a)
                      have f3 := y2 _ (same_sqT (era_sub _ _) c)
                      rw [e1] at e3
                      rw [f1] at f3
                      cases e3
                      cases f3
                      have nT : T ∉ M := fun z => hM T z hT
                      refine .tpk (.inl (era_of upd_same nT)) (.cons (e2.mono ?_) (.cons (f2.mono ?_) .nil))
                      all_goals exact era_mono _ (same_new hT)
end
end FR
namespace FR
open PySem L2
variable [TheW]

/-! ## promises over data -/
def spD (K : PySem.W.Frag) (C : List D → (D → Prop) → Prop) : Sp := fun vs H Q _ => ∃ (M : List Addr) (ds : List D) (Φ : D → Prop), (∀ p ∈ M, H p ≠ Option.none) ∧ RpL K (era H M) vs ds ∧ C ds Φ ∧
  ∀ v d H', Φ d → Same H H' → Rp K (era H' M) v d → Q v H'
def spP (K : PySem.W.Frag) (C : List D → Nat → (D → Nat → Prop) → Prop) : Sp := fun vs H Q _ => ∃ (M : List Addr) (p : Addr) (us : List V) (n : Nat) (ds : List D) (Φ : D → Nat → Prop), vs = .ref p :: us ∧ p ∈ M ∧ (∀ q ∈ M, H q ≠ Option.none) ∧ PotOk H p n ∧ RpL K (era H M) us ds ∧ C ds n Φ ∧
  ∀ v d n' H', Φ d n' → (∀ b o, b ≠ p → H b = some o → H' b = some o) → PotOk H' p n' → Rp K (era H' M) v d → Q v H'

def envD (N : List Str) (ds : List D) : List E := ds.map E.d ++ List.replicate (N.length - ds.length) E.any
def envP (N : List Str) (ds : List D) : List E := .pot :: (ds.map E.d ++ List.replicate (N.length - (ds.length + 1)) E.any)

theorem env_any {W : Wo} {U H : Hp} : ∀ k : Nat, EnvOk W U H (List.replicate k E.any) (List.replicate k Option.none) []
  | 0 => trivial
  | k + 1 => env_any (W := W) (U := U) (H := H) k

section
variable {K : PySem.W.Frag} {N : List Str} {t : TS} {vs : List V} {H : Hp} {Q : VK} {Ex : XK}
theorem D_body {C : List D → (D → Prop) → Prop} (h : spD K C vs H Q Ex) (hw : ∀ (W : Wo) ds Φ, W.K = K → C ds Φ → WpS W t 0 (envD N ds) { nx := fun _ _ => Φ .non, rt := fun d _ => Φ d }) :
    t { nx := fun _ H' => Q .non H', rt := Q } (start N vs) H := by
  obtain ⟨M, ds, Φ, hM, r, c, k⟩ := h
  have w : Wd ⟨K, Option.none, M, H⟩ 0 (envD N ds) (start N vs) [] [] H := by
    refine ⟨fun b o _ e => e, hM, fun p e => (by cases e), [], [], fun p hp => (by cases hp), List.nodup_nil, ?_, trivial⟩
    have e : M ++ ([] ++ []) = M := by simp
    show EnvOk _ (era H (M ++ ([] ++ []))) H _ _ []
    rw [e]
    unfold envD L2.start
    rw [r.len]
    exact EnvOk.ofL r (env_any _)
  have fin : ∀ v d n H' env σ, Φ d → Wd ⟨K, Option.none, M, H⟩ n env σ [.d d] [some v] H' → Q v H' := fun v d n H' env σ p w' => by
    obtain ⟨k1, h1, pp, M1, M2, a, nd, b, c⟩ := w'
    obtain ⟨⟨u, e, ru⟩, _⟩ := c
    cases e
    exact k v d H' p (fun b o q => k1 b o (fun z => by cases z) q) (ru.mono (era_less fun b hb => List.mem_append_left _ hb))
  exact hw _ ds Φ rfl c _ _ _ _ _ w ⟨fun σ H' env n p w' => fin .non .non n H' env σ p (w'.push fun _ _ => .non), fun v d n H' env σ p w' => fin v d n H' env σ p w', fun _ _ _ _ z => z.elim, fun _ _ _ _ z => z.elim⟩
theorem P_body {C : List D → Nat → (D → Nat → Prop) → Prop} (h : spP K C vs H Q Ex) (hw : ∀ (W : Wo) n ds Φ, W.K = K → C ds n Φ → WpS W t n (envP N ds) { nx := fun _ n => Φ .non n, rt := Φ }) :
    t { nx := fun _ H' => Q .non H', rt := Q } (start N vs) H := by
  obtain ⟨M, p, us, n, ds, Φ, rfl, hp, hM, po, r, c, k⟩ := h
  have w : Wd ⟨K, some p, M, H⟩ n (envP N ds) (start N (.ref p :: us)) [] [] H := by
    refine ⟨fun b o _ e => e, hM, fun q e => (by cases e; exact ⟨hp, po⟩), [], [], fun p hp => (by cases hp), List.nodup_nil, ?_, trivial⟩
    have e : M ++ ([] ++ []) = M := by simp
    show EnvOk _ (era H (M ++ ([] ++ []))) H _ _ []
    rw [e]
    unfold envP L2.start
    rw [List.length_cons, r.len]
    exact ⟨⟨p, rfl, rfl⟩, EnvOk.ofL r (env_any _)⟩
  have fin : ∀ v d n H' env σ, Φ d n → Wd ⟨K, some p, M, H⟩ n env σ [.d d] [some v] H' → Q v H' := fun v d n H' env σ q w' => by
    obtain ⟨k1, h1, pp, M1, M2, a, nd, b, c⟩ := w'
    obtain ⟨⟨u, e, ru⟩, _⟩ := c
    cases e
    exact k v d n H' q (fun b o hb e => k1 b o (fun z => hb (Option.some.inj z).symm) e) (pp p rfl).2 (ru.mono (era_less fun b hb => List.mem_append_left _ hb))
  exact hw _ n ds Φ rfl c _ _ _ _ _ w ⟨fun σ H' env n p w' => fin .non .non n H' env σ p (w'.push fun _ _ => .non), fun v d n H' env σ p w' => fin v d n H' env σ p w', fun _ _ _ _ z => z.elim, fun _ _ _ _ z => z.elim⟩
end

section
variable {W : Wo} {n m : Nat} {env stk : List E} {σ : St} {ds : List D} {vs : St} {us : List V} {H H' : Hp} {d x y : D} {v vx vy : V} {i j : Nat} {Φ : D → Nat → Prop} {O : Out} {te : TE} {ta : TA} {t : TS} {xs : List D}
theorem wp_call {C : List D → (D → Prop) → Prop} {Ex : XK} (q : WpA W ta n env fun ds n' => C ds fun d => Φ d n') : Wp W (tCall (spD W.K C) [] Ex ta) n env Φ := fun σ stk vs H Q w k =>
  q σ stk vs H _ w fun us ds n' H' q' l w' => by
    have hid := w'.hidH
    obtain ⟨k1, h1, pp, M1, M2, a, nd, b, c⟩ := w'
    obtain ⟨c1, c2⟩ := EnvOk.toL l c
    rw [List.append_nil]
    refine ⟨W.M0 ++ (M1 ++ M2), ds, _, fun p hp => ?_, c1, q', fun v d H2 p s r => k v d n' H2 p ?_⟩
    · rcases List.mem_append.mp hp with z | z
      · exact hid p z
      · exact (a p z).2
    · refine ⟨fun b o n q => s _ _ (k1 b o n q), h1, fun q hq => ⟨(pp q hq).1, (pp q hq).2.mono s⟩, M1, M2, fun q hq => ⟨(a q hq).1, fun z => ?_⟩, nd, b.mono (era_mono _ s) s, ⟨v, rfl, r⟩, c2.mono (era_mono _ s) s⟩
      cases r : H' q with
      | none => exact (a q hq).2 r
      | some o => rw [s _ _ r] at z; cases z
theorem wp_callP {C : List D → Nat → (D → Nat → Prop) → Prop} {Ex : XK} (hi : env[i]? = some .pot) (q : WpA W ta n env fun ds n' => C ds n' Φ) : Wp W (tCall (spP W.K C) [] Ex (tCons (tVar i) ta)) n env Φ := fun σ stk vs H Q w k => by
  obtain ⟨p, hp1, hp2⟩ : ∃ p, σ[i]? = some (some (.ref p)) ∧ W.P = some p := by
    obtain ⟨k1, h1, pp, M1, M2, a, nd, b, c⟩ := w
    exact b.getP hi
  refine ⟨.ref p, hp1, q σ stk vs H _ w fun us ds n' H' q' l w' => ?_⟩
  have hid := w'.hidH
  obtain ⟨k1, h1, pp, M1, M2, a, nd, b, c⟩ := w'
  obtain ⟨c1, c2⟩ := EnvOk.toL l c
  obtain ⟨p1, p2⟩ := pp p hp2
  refine ⟨W.M0 ++ (M1 ++ M2), p, us ++ [], n', ds, Φ, by rw [List.append_nil]; simp, List.mem_append_left _ p1, fun p hp => ?_, p2, by rw [List.append_nil]; exact c1, q', fun v d n2 H2 f s po r => k v d n2 H2 f ?_⟩
  · rcases List.mem_append.mp hp with z | z
    · exact hid p z
    · exact (a p z).2
  · have es : Same (era H' (W.M0 ++ (M1 ++ M2))) (era H2 (W.M0 ++ (M1 ++ M2))) := fun b o e => by
      obtain ⟨e1, e2⟩ := era_some e
      exact era_of (s b o (by rintro rfl; exact e2 (List.mem_append_left _ p1)) e1) e2
    have np : ∀ q ∈ M1 ++ M2, q ≠ p := fun q hq z => by
      subst z
      exact h1 _ p1 (a _ hq).1
    refine ⟨fun b o n q => s b o (fun z => n (by rw [z]; exact hp2)) (k1 b o n q), h1, fun q hq => ?_, M1, M2, fun q hq => ⟨(a q hq).1, fun z => ?_⟩, nd,
      EnvOk.mono2 es (fun q hq o e => s q o (np q (List.mem_append_left _ hq)) e) b, ⟨v, rfl, r⟩, EnvOk.mono2 es (fun q hq o e => s q o (np q (List.mem_append_right _ hq)) e) c2⟩
    · rw [hp2] at hq
      cases hq
      exact ⟨p1, po⟩
    · cases r : H' q with
      | none => exact (a q hq).2 r
      | some o => rw [s _ _ (np q hq) r] at z; cases z

/-! ## lists that a def fills -/
theorem Wd.ownO {x : D} (w : Wd W n env σ stk vs H) (hi : env[i]? = some (.own x)) : ∃ p u, σ[i]? = some (some (.ref p)) ∧ H p = some u ∧ ∃ U, OwR W.K U p u x := by
  obtain ⟨k1, h1, pp, M1, M2, a, nd, b, c⟩ := w
  obtain ⟨p, Ma, Mb, ws, e1, e2, e3, e4, _⟩ := b.owned hi
  exact ⟨p, ws, e2, e3, _, e4⟩
theorem Wd.ownAt {xs : List D} (w : Wd W n env σ stk vs H) (hi : env[i]? = some (.own (.lst xs))) : ∃ p ws, σ[i]? = some (some (.ref p)) ∧ H p = some (.lst ws) ∧ ws.length = xs.length := by
  obtain ⟨p, u, e2, e3, U, e4⟩ := w.ownO hi
  cases e4 with
  | lst r => exact ⟨p, _, e2, e3, r.len⟩
/-- an owned thing changed by a datum -/
theorem Wd.ownPutO {x x' : D} {u u' : HO} (w : Wd W n env σ (.d y :: stk) (some vy :: vs) H) (hi : env[i]? = some (.own x)) {p : Addr} (hp : σ[i]? = some (some (.ref p))) (hH : H p = some u) (ff : ∀ U : Hp, Same U H → OwR W.K U p u x → Rp W.K U vy y → OwR W.K U p u' x') :
    Wd W n (env.set i (.own x')) σ stk vs (upd H p u') := by
  obtain ⟨k1, h1, pp, M1, M2, a, nd, b, c⟩ := w
  obtain ⟨⟨u, e, ry⟩, c⟩ := c
  cases e
  obtain ⟨p', Ma, Mb, wz, e1, e2, e3, e4, f, g⟩ := b.owned hi
  rw [hp] at e2; cases e2
  rw [hH] at e3; cases e3
  subst e1
  have p0 := (a p (by simp)).1
  have hU : era (upd H p u') (W.M0 ++ ((Ma ++ p :: Mb) ++ M2)) = era H (W.M0 ++ ((Ma ++ p :: Mb) ++ M2)) := by
    funext b
    unfold era
    split
    · rfl
    · rename_i z
      rw [upd_ne]
      rintro rfl
      exact z (by simp)
  have nq : ∀ q ∈ Ma ++ Mb, q ≠ p := fun q hq z => by
    subst z
    have nd1 := (List.nodup_append.mp nd).1
    exact (List.nodup_cons.mp (List.perm_middle.nodup_iff.mp nd1)).1 hq
  have nq2 : ∀ q ∈ M2, q ≠ p := fun q hq z => by
    subst z
    exact (List.nodup_append.mp nd).2.2 q (by simp) q hq rfl
  refine ⟨fun b o n q => ?_, h1, fun q hq => ?_, Ma ++ p :: Mb, M2, fun q hq => ⟨(a q hq).1, ?_⟩, nd, ?_, ?_⟩
  · rw [upd_ne (by rintro rfl; rw [p0] at q; cases q)]; exact k1 b o n q
  · obtain ⟨z1, z2⟩ := pp q hq
    refine ⟨z1, ?_⟩
    obtain ⟨a1, b1, c1, z3, z4⟩ := z2
    refine ⟨a1, b1, c1, ?_, z4⟩
    rw [upd_ne (by rintro rfl; exact h1 _ z1 p0)]; exact z3
  · by_cases z : q = p
    · subst z; rw [upd_same]; exact fun z => by cases z
    · rw [upd_ne z]; exact (a q hq).2
  · rw [hU]
    exact f _ _ _ _ (Same.refl _) (fun q hq o e => by rw [upd_ne (nq q hq)]; exact e) upd_same (ff _ (era_sub _ _) e4 ry)
  · rw [hU]
    exact EnvOk.mono2 (Same.refl _) (fun q hq o e => by rw [upd_ne (nq2 q hq)]; exact e) c
theorem Wd.appendE {xs : List D} (w : Wd W n env σ (.d y :: stk) (some vy :: vs) H) (hi : env[i]? = some (.own (.lst xs))) {p : Addr} {ws : List V} (hp : σ[i]? = some (some (.ref p))) (hH : H p = some (.lst ws)) :
    Wd W n (env.set i (.own (.lst (xs ++ [y])))) σ stk vs (upd H p (.lst (ws ++ [vy]))) := w.ownPutO hi hp hH fun U _ h r => by
  cases h with
  | lst h => exact .lst (h.app (.cons r .nil))
theorem Wd.freezeE {x : D} (w : Wd W n env σ stk vs H) (hi : env[i]? = some (.own x)) : Wd W n (env.set i (.d x)) σ stk vs H := by
  have w0 := w
  obtain ⟨k1, h1, pp, M1, M2, a, nd, b, c⟩ := w
  obtain ⟨p, Ma, Mb, ws, e1, e2, e3, e4, f, g⟩ := b.owned hi
  subst e1
  have pM : List.Perm ((Ma ++ p :: Mb) ++ M2) (p :: ((Ma ++ Mb) ++ M2)) := (List.Perm.append_right M2 List.perm_middle)
  have nd2 := List.nodup_cons.mp (pM.nodup_iff.mp nd)
  have es : Same (era H (W.M0 ++ ((Ma ++ p :: Mb) ++ M2))) (era H (W.M0 ++ ((Ma ++ Mb) ++ M2))) := era_less fun b hb => by
    rcases List.mem_append.mp hb with z | z
    · exact List.mem_append_left _ z
    · exact List.mem_append_right _ (pM.symm.subset (List.mem_cons_of_mem _ z))
  refine ⟨k1, h1, pp, Ma ++ Mb, M2, fun q hq => a q (pM.symm.subset (List.mem_cons_of_mem _ hq)), nd2.2, g _ _ es ((e4.mono es).rp (era_of e3 fun z => ?_)), c.mono es (Same.refl _)⟩
  rcases List.mem_append.mp z with z | z
  · exact h1 p z (a p (by simp)).1
  · exact nd2.1 z
theorem ws_freeze {x : D} (hi : env[i]? = some (.own x)) (q : WpS W t n (env.set i (.d x)) O) : WpS W t n env O := fun σ stk vs H De w f => q σ stk vs H De (w.freezeE hi) f
theorem Wd.ownSet {xs : D} (i : Nat) (hi : i < env.length) (hno : ∀ zs, env[i]? ≠ some (.own zs)) (w : Wd W n env σ (.own xs :: stk) (some v :: vs) H) : Wd W n (env.set i (.own xs)) (σ.set i (some v)) stk vs H := by
  obtain ⟨k1, h1, pp, M1, M2, a, nd, b, c⟩ := w
  cases M2 with
  | nil => exact c.elim
  | cons p M2 =>
    obtain ⟨⟨ws, e, hp, r⟩, c⟩ := c
    cases e
    obtain ⟨Ma, Mb, e1, b2⟩ : ∃ Ma Mb, M1 = Ma ++ Mb ∧ EnvOk W (era H (W.M0 ++ (M1 ++ p :: M2))) H (env.set i (.own xs)) (σ.set i (some (.ref p))) (Ma ++ p :: Mb) := by
      clear a nd c k1 h1 pp
      generalize hU : era H (W.M0 ++ (M1 ++ p :: M2)) = U at *
      clear hU
      induction env generalizing σ M1 i with
      | nil => simp at hi
      | cons e0 es ih =>
        cases σ with
        | nil => cases e0 <;> exact b.elim
        | cons o σ =>
          cases i with
          | zero =>
            refine ⟨[], M1, rfl, ⟨ws, rfl, hp, r⟩, ?_⟩
            cases e0 with
            | any => exact b
            | d x => exact b.2
            | own z => exact absurd rfl (hno z)
            | pot => exact b.2
          | succ i =>
            have hno' : ∀ zs, es[i]? ≠ some (.own zs) := fun zs e => hno zs (by simpa using e)
            cases e0 with
            | any =>
              obtain ⟨Ma, Mb, e, q⟩ := ih i (by simpa using hi) hno' _ b
              exact ⟨Ma, Mb, e, q⟩
            | d x =>
              obtain ⟨Ma, Mb, e, q⟩ := ih i (by simpa using hi) hno' _ b.2
              exact ⟨Ma, Mb, e, b.1, q⟩
            | own z =>
              cases M1 with
              | nil => exact b.elim
              | cons p' M1 =>
                obtain ⟨Ma, Mb, e, q⟩ := ih i (by simpa using hi) hno' _ b.2
                exact ⟨p' :: Ma, Mb, by rw [e]; rfl, b.1, q⟩
            | pot =>
              obtain ⟨Ma, Mb, e, q⟩ := ih i (by simpa using hi) hno' _ b.2
              exact ⟨Ma, Mb, e, b.1, q⟩
    subst e1
    have pM : List.Perm ((Ma ++ Mb) ++ p :: M2) ((Ma ++ p :: Mb) ++ M2) :=
      List.perm_middle.trans (List.Perm.symm (List.Perm.append_right M2 List.perm_middle))
    have es : Same (era H (W.M0 ++ ((Ma ++ Mb) ++ p :: M2))) (era H (W.M0 ++ ((Ma ++ p :: Mb) ++ M2))) := era_less fun b hb => by
      rcases List.mem_append.mp hb with z | z
      · exact List.mem_append_left _ z
      · exact List.mem_append_right _ (pM.symm.subset z)
    exact ⟨k1, h1, pp, Ma ++ p :: Mb, M2, fun q hq => a q (pM.symm.subset hq), pM.nodup_iff.mp nd, b2.mono es (Same.refl _), c.mono es (Same.refl _)⟩
theorem ws_own (hi : i < env.length) (hno : ∀ zs, env[i]? ≠ some (.own zs)) (q : O.nx (env.set i (.own (.lst []))) n) : WpS W (tAsg (tLst tNil) (gName i)) n env O := fun σ stk vs H De w f =>
  ⟨Nat.zero_le _, fun p hp => f.nx _ _ _ n q ((w.newOwn hp).ownSet i hi hno)⟩
theorem ws_append {xs : List D} (hi : env[i]? = some (.own (.lst xs))) (q : Wp W te n env fun y n' => xs.length < sizeLine ∧ O.nx (env.set i (.own (.lst (xs ++ [y])))) n') : WpS W (tDrop (tBM W.K "list" rAppend (tVar i) (tCons te tNil))) n env O := fun σ stk vs H De w f => by
  obtain ⟨p, ws, e1, e2, e3⟩ := w.ownAt hi
  refine ⟨.ref p, e1, .inl ⟨rfl, _, .inl (.inl e2)⟩, q σ stk vs H _ w fun vy y n' H' q' w' => ?_⟩
  obtain ⟨p', ws', e1', e2', e3'⟩ := w'.pop.ownAt hi
  rw [e1] at e1'; cases e1'
  exact ⟨p, ws', vy, rfl, rfl, e2', by rw [e3']; exact q'.1, f.nx _ _ _ n' q'.2 (w'.appendE hi e1 e2')⟩
theorem ws_par (q : WpA W ta n env fun ds n' => ∃ a b, ds = [a, b] ∧ O.nx ((env.set i (.d a)).set j (.d b)) n') : WpS W (tPar i j ta) n env O := fun σ stk vs H De w f =>
  q σ stk vs H _ w fun us ds n' H' q' l w' => by
    obtain ⟨a, b, rfl, q'⟩ := q'
    match us, l with
    | [u, u'], _ =>
      have w2 : Wd W n' env σ (.d a :: .d b :: stk) (some u :: some u' :: vs) H' := w'
      exact ⟨u, u', rfl, f.nx _ _ _ n' q' ((w2.set i).set j)⟩
end
end FR
namespace FR
open PySem PySem.Spec PyProof.Rows L2
variable [TheW]

/-! ## defs of the text by name -/
def DefIn (K : PySem.W.Frag) (mg : Str → Option Value) (x : Str) (st : Stmt) (ps : List Str) : Prop := ∃ a fd, Fun K x x st a fd ∧ mg x = some (.ref a) ∧ Binds K fd ps []
def FdAt (K : PySem.W.Frag) (a : Addr) (fd : FuncData) : Prop := ∃ oc od osl, K.lookup a = some ⟨oc, od, .func fd, osl⟩
theorem fdAt_of {K : PySem.W.Frag} {x q : Str} {st : Stmt} {a : Addr} {fd : FuncData} (F : Fun K x q st a fd) : FdAt K a fd := by
  obtain ⟨oc, od, kV, doc, pm, an, cdv, ct, osl, rfl, lk, hcd⟩ := F.ex
  exact ⟨_, _, _, lk⟩
def Has (P : Program) (w : World) (K : PySem.W.Frag) (mg : Str → Option Value) (base : Heap) (k : Nat) (x : Str) (ps : List Str) (sp : Sp) : Prop :=
  ∃ a fd, FnG P w K mg base k a fd ps sp ∧ mg x = some (.ref a) ∧ PySem.W.keepIn K (.ref a) = true ∧ Binds K fd ps [] ∧ FdAt K a fd
/-- a constant of the module -/
def Gc (mg : Str → Option Value) (x : Str) (v : V) : Prop := ∃ u, mg x = some u ∧ RelV v u

section
variable {P : Program} {w : World} {K : PySem.W.Frag} {mg : Str → Option Value} {base : Heap} {k : Nat} {x : Str} {st : Stmt} {N ps : List Str}
theorem Has.mono {j : Nat} {sp : Sp} (h : Has P w K mg base j x ps sp) (l : j ≤ k) : Has P w K mg base k x ps sp := by
  obtain ⟨a, fd, h1, h2⟩ := h
  exact ⟨a, fd, h1.mono l, h2⟩
theorem has_sp {sp : Sp} (Dd : DefIn K mg x st ps) (S : FnScope N ps (defScope st)) (len : ∀ vs H Q E, sp vs H Q E → vs.length = ps.length)
    (hb : ∀ (f : Addr) (cdv : Value) (B : Around) (out : List Env) (t : Shared) (H : Hp) (vs : List V) (Q : VK) (E : XK), B.guards = some [] → Room k (B.deeper (envOfC x (defScope st) t.heap.objs.size f cdv)) → sp vs H Q E →
      ∃ r, PSs (cxOf CX0 P w K mg base N x (defScope st) f cdv B out t H E).nox (defBody st) r ∧ r { nx := fun _ H' => Q .non H', rt := Q } (L2.start N vs) H) :
    Has P w K mg base (k + 1) x ps sp := by
  obtain ⟨a, fd, F, hm, hbi⟩ := Dd
  exact ⟨a, fd, fnG_of F S len (fun cdv B out t H vs Q E gu hr h => hb a cdv B out t H vs Q E gu hr h), hm, F.kp, hbi, fdAt_of F⟩
theorem has_D {C : List D → (D → Prop) → Prop} (Dd : DefIn K mg x st ps) (S : FnScope N ps (defScope st)) (len : ∀ ds Φ, C ds Φ → ds.length = ps.length)
    (hb : ∀ (f : Addr) (cdv : Value) (B : Around) (out : List Env) (t : Shared) (H : Hp) (E : XK), B.guards = some [] → Room k (B.deeper (envOfC x (defScope st) t.heap.objs.size f cdv)) →
      ∃ r, PSs (cxOf CX0 P w K mg base N x (defScope st) f cdv B out t H E).nox (defBody st) r ∧ ∀ (W : Wo) ds Φ, W.K = K → C ds Φ → WpS W r 0 (envD N ds) { nx := fun _ _ => Φ .non, rt := fun d _ => Φ d }) :
    Has P w K mg base (k + 1) x ps (spD K C) := by
  refine has_sp Dd S (fun vs H Q E h => ?_) fun f cdv B out t H vs Q E gu hr h => ?_
  · obtain ⟨M, ds, Φ, _, r, c, _⟩ := h
    rw [r.len, len ds Φ c]
  · obtain ⟨r, h1, h2⟩ := hb f cdv B out t H E gu hr
    exact ⟨r, h1, D_body h h2⟩
theorem has_P {C : List D → Nat → (D → Nat → Prop) → Prop} (Dd : DefIn K mg x st ps) (S : FnScope N ps (defScope st)) (len : ∀ ds n Φ, C ds n Φ → ds.length + 1 = ps.length)
    (hb : ∀ (f : Addr) (cdv : Value) (B : Around) (out : List Env) (t : Shared) (H : Hp) (E : XK), B.guards = some [] → Room k (B.deeper (envOfC x (defScope st) t.heap.objs.size f cdv)) →
      ∃ r, PSs (cxOf CX0 P w K mg base N x (defScope st) f cdv B out t H E).nox (defBody st) r ∧ ∀ (W : Wo) n ds Φ, W.K = K → C ds n Φ → WpS W r n (envP N ds) { nx := fun _ n => Φ .non n, rt := Φ }) :
    Has P w K mg base (k + 1) x ps (spP K C) := by
  refine has_sp Dd S (fun vs H Q E h => ?_) fun f cdv B out t H vs Q E gu hr h => ?_
  · obtain ⟨M, p, us, n, ds, Φ, rfl, _, _, _, r, c, _⟩ := h
    rw [List.length_cons, r.len, len ds n Φ c]
  · obtain ⟨r, h1, h2⟩ := hb f cdv B out t H E gu hr
    exact ⟨r, h1, P_body h h2⟩
end
section
variable {X : Cx} {k : Nat} {ps : List Str} {sp : Sp} {x : Str} {p pos : Pos} {e : Expr} {es : List Expr} {t : TA} {v : V}
theorem pe_has (h : Has X.prog X.w X.K X.mg X.base k x ps sp) (gu : X.A.guards = some []) (hr : Room k X.A) (hg : Gl X x) (ha : PA X (e :: es) t) (hdb : (x == ("__debug__" : Str)) = false := by decide)
    (he : starEach (e :: es) X.env = (false, eval e X.env) :: starEach es X.env := by rfl) (hpl : (backTo pos (starEach es X.env)).any (·.1) = false := by rfl) :
    PE X (.Call (.Name x p) (e :: es) [] pos) (tCall sp [] E0 t) := by
  obtain ⟨a, fd, h1, h2, h3, h4, _⟩ := h
  exact pe_callG h1 gu hr hg h2 h3 h4 ha hdb he hpl
theorem pe_gc (h : Gc X.mg x v) (hg : Gl X x) (hdb : (x == ("__debug__" : Str)) = false := by decide) (hcd : (x == ("__classdict__" : Str)) = false := by decide) : PE X (.Name x p) (tC v) := by
  obtain ⟨u, h1, h2⟩ := h
  first
    | exact pe_glob hg h1 h2 hdb hcd
    | exact pe_glob hg h1 h2 hdb
theorem units_of {k : Nat} {B : Around} (hr : Room k B) : B.units + 200 < cLine := by have := hr.un; omega
end
/-! ## facts of the head -/
section
variable {K : PySem.W.Frag} {mg : Str → Option Value} {h : Heap} {x : Str} {st : Stmt} {ps : List Str} {f : Addr} {oc kV dc pm cd ct : Value} {od an : Option Addr} {sl : Array (Option Value)}
theorem def_in (X : K.In h) (G : h.Ns mainGlobals mg) (a : PySem.W.nsIn K mainGlobals x = some (some (.ref f))) (l : K.lookup f = some ⟨oc, od, .func (PySem.W.fnOf x x (defArgs st) (defBody st) (defScope st) .none kV dc pm an cd ct), sl⟩)
    (c : PySem.W.codeIn K cd x = true) (k : PySem.W.keepIn K (.ref f) = true) (b : ∀ (kV doc pm : Value) (an : Option Addr) (cdv ct : Value) (us : List Value), us.length = ps.length → bindArgs (PySem.W.fnOf x x (defArgs st) (defBody st) (defScope st) .none kV doc pm an cdv ct) ⟨us, []⟩ = pure (ps.zip us)) : DefIn K mg x st ps :=
  ⟨f, _, fun_mk (st := st) l c k, PySem.W.mg_of X G a, (fun_mk (st := st) l c k).binds b⟩
theorem gc_of (X : K.In h) (G : h.Ns mainGlobals mg) {u : Value} {v : V} (a : PySem.W.nsIn K mainGlobals x = some (some u)) (r : RelV v u) : Gc mg x v := ⟨u, PySem.W.mg_of X G a, r⟩
theorem no_of (X : K.In h) (G : h.Ns mainGlobals mg) (a : PySem.W.nsIn K mainGlobals x = some none) : mg x = none := PySem.W.mg_none_of X G a
end
/-! ## comprehensions whose parts draw nothing -/
section
variable {W : Wo} {n : Nat} {env : List E} {Φ : D → Nat → Prop} {wi : TI} {g : TG} {tt : TT} {te : TE} {sl L : List Nat} {f : D → D} {p : D → Bool}
theorem wp_lcf (hL : ∀ i ∈ L, i ∈ sl) (q : WpI W wi n env fun ds n1 => ds.length ≤ sizeLine ∧
    (∀ d ∈ ds, WpG W g L d n1 (wipeE (env.map hideE) sl) fun env2 m2 => m2 = n1 ∧ WpT W tt n1 env2 fun b m3 => m3 = n1 ∧ b = p d ∧ (p d = true → Wp W te n1 env2 fun y m4 => m4 = n1 ∧ y = f d)) ∧ Φ (.lst ((ds.filter p).map f)) n1) :
    Wp W (tLc wi g tt te sl) n env Φ := by
  refine wp_lc hL fun σ stk vs H R w k => q σ stk vs H R w fun J ds n' H' stk2 vs2 q' l w' it => k J ds n' H' stk2 vs2 ?_ l w' it
  obtain ⟨h1, h2, h3⟩ := q'
  refine ⟨fun i acc m => m = n' ∧ acc = ((ds.take i).filter p).map f, ⟨rfl, by simp⟩, h1, ?_, ?_⟩
  · rintro i d acc m e ⟨rfl, rfl⟩
    have hd : d ∈ ds := List.mem_of_getElem? e
    have et : ds.take (i + 1) = ds.take i ++ [d] := by
      rw [List.take_succ, e]; rfl
    refine fun σ stk vs v H Q w k => h2 d hd σ stk vs v H Q w fun σ' env' n2 H2 s ⟨e2, q2⟩ w2 => k σ' env' n2 H2 s ?_ w2
    subst e2
    refine fun σ stk vs H Q w k => q2 σ stk vs H Q w fun b n3 H3 ⟨e3, e4, q3⟩ w3 => k b n3 H3 ?_ w3
    subst e3 e4
    cases hp : p d with
    | true =>
      refine fun σ stk vs H Q w k => q3 hp σ stk vs H Q w fun v y n4 H4 ⟨e5, e6⟩ w4 => k v y n4 H4 ⟨e5, ?_⟩ w4
      subst e6
      rw [et, List.filter_append, List.map_append]
      simp [hp]
    | false =>
      refine ⟨rfl, ?_⟩
      rw [et, List.filter_append, List.map_append]
      simp [hp]
  · rintro acc m ⟨rfl, rfl⟩ _
    rw [List.take_length]
    exact h3
theorem wp_map (hL : ∀ i ∈ L, i ∈ sl) (q : WpI W wi n env fun ds n1 => ds.length ≤ sizeLine ∧
    (∀ d ∈ ds, WpG W g L d n1 (wipeE (env.map hideE) sl) fun env2 m2 => m2 = n1 ∧ Wp W te n1 env2 fun y m4 => m4 = n1 ∧ y = f d) ∧ Φ (.lst (ds.map f)) n1) :
    Wp W (tLc wi g tYes te sl) n env Φ := by
  refine wp_lcf (p := fun _ => true) (f := f) hL fun σ stk vs H R w k => q σ stk vs H R w fun J ds n' H' stk2 vs2 q' l w' it => k J ds n' H' stk2 vs2 ?_ l w' it
  obtain ⟨h1, h2, h3⟩ := q'
  refine ⟨h1, fun d hd σ stk vs v H Q w k => h2 d hd σ stk vs v H Q w fun σ' env' n2 H2 s ⟨e2, q2⟩ w2 => k σ' env' n2 H2 s ⟨e2, wpT_yes ⟨rfl, rfl, fun _ => q2⟩⟩ w2, ?_⟩
  rw [List.filter_eq_self.mpr (fun _ _ => rfl)]
  exact h3
end
end FR
namespace FR
open PySem PySem.Spec PyProof.Rows L2
variable [TheW]
/-! ## rules that name the written part outright -/
section
variable {X : Cx} {K : PySem.W.Frag}
theorem k_isi (h : X.K = K) : CallR X (.builtin "isinstance") (rIsi K) := h ▸ call_isi
theorem k_all (h : X.K = K) (hc : X.calm = true) : CallR X (.builtin "all") (rAll K) := h ▸ cr_all hc
theorem k_any (h : X.K = K) (hc : X.calm = true) : CallR X (.builtin "any") (rAny K) := h ▸ cr_any hc
theorem k_len (h : X.K = K) : CallR X (.builtin "len") (fun xs H Q => ∃ x n, xs = [x] ∧ LenV K x H n ∧ Q (.int n) H) := h ▸ call_len
theorem k_repr (h : X.K = K) (gu : X.A.guards = some []) (hu : X.A.units + 200 < cLine) (hb : SysB X.base) : CallR X (.builtin "repr") (rRepr K) := h ▸ call_repr gu hu hb
theorem k_in (h : X.K = K) : OpR X (compareOp .In) (rIn K false) := h ▸ op_in_seq
theorem k_notin (h : X.K = K) : OpR X (compareOp .NotIn) (rIn K true) := h ▸ op_notIn_seq
theorem k_ixT (h : X.K = K) : IxR X (rIxT K) := h ▸ ix_tup
theorem k_ixL (h : X.K = K) : IxR X (rIxL K) := h ▸ ix_list
theorem k_slT (h : X.K = K) : SlR X (rSlP K) := k_slP h
theorem k_catT (h : X.K = K) : OpR X (binaryOp .Add) (rCatP K) := k_catP h
theorem k_eqD (h : X.K = K) (hu : X.A.units + 64 < cLine) : OpR X (compareOp .Eq) (rEqD K) := h ▸ op_eqD hu
theorem k_neD (h : X.K = K) (hu : X.A.units + 64 < cLine) : OpR X (compareOp .NotEq) (rNeD K) := h ▸ op_neD hu
theorem k_tuple (h : X.K = K) : CallR X (.type "tuple") (rTupP K) := k_tupleP h
theorem k_list (h : X.K = K) : CallR X (.type "list") (fun xs H Q => ∃ p ys, xs = [.ref p] ∧ (SqL K H p ys ∨ SqT K H p ys) ∧ ∀ l, H l = none → Q (.ref l) (upd H l (.lst ys))) := h ▸ call_list_of
theorem k_tup (h : X.K = K) {tg l : Expr} {tl : TE} (hl : PE X l tl) : PI X tg l (iTup K tl) := h ▸ pi_tup hl
theorem k_lst (h : X.K = K) {tg l : Expr} {tl : TE} (hl : PE X l tl) : PI X tg l (iList K tl) := h ▸ pi_list hl
theorem k_zip (h : X.K = K) {e e2 : Expr} {ta : TA} {p pos tpos : Pos} {elts : List Expr} {kk : Nat} (hg : Gl X "zip") (hm : X.mg "zip" = none) (ha : PA X [e, e2] ta)
    (h1 : starEach [e, e2] X.env = (false, eval e X.env) :: starEach [e2] X.env := by rfl) (h2 : ((backTo pos (starEach [e2] X.env)).any fun x => x.fst) = false := by rfl) :
    PI X (.Tuple elts kk tpos) (.Call (.Name "zip" p) [e, e2] [] pos) (RZ.iZipA K ta) := h ▸ RZ.pi_zipA hg hm ha h1 h2
theorem k_tgt (h : X.K = K) {es : List Expr} {k n : Nat} {t : TGs} {pos : Pos} (hc : X.calm = true) (hp : PGs X es t) (hn : (assignEach es X.env).length = n := by rfl) (hst : (assignEach es X.env).findIdx? (·.1) = none := by rfl) : PG X (.Tuple es k pos) (gTup K n t) :=
  h ▸ pg_tup hc hp hn hst
theorem k_app (h : X.K = K) {xs e : Expr} {to te : TE} {apos cpos : Pos} (ho : PE X xs to) (he : PE X e te)
    (hp : PE X (.Call (.Attribute xs "append" apos) [e] [] cpos) (tBM X.K "list" rAppend to (tCons te tNil))) : PE X (.Call (.Attribute xs "append" apos) [e] [] cpos) (tBM K "list" rAppend to (tCons te tNil)) := h ▸ hp
def CPowW (i j : Int) : Prop := 0 ≤ j ∧ (Builtin.Int.intBits i : Int) * j ≤ 2 ^ 27
theorem op_powW : OpR X (binaryOp .Pow) (rI CPowW fun i j => .int (i ^ j.toNat)) := opI fun _ _ _ _ _ _ _ hc q => pow_int hc.1 hc.2 q
end
end FR
namespace FR
open PySem PySem.Spec PyProof.Rows L2 HT
variable [TheW]

/-! ## t[::-1] of a tuple -/
theorem adj_rev (n : Nat) : Builtin.Slice.sliceAdjust none none (-1) (n : Int) = ((n : Int) - 1, -1) := rfl
theorem places_rev (n : Nat) : Builtin.Slice.slicePlaces ((n : Int) - 1) (-1) (-1) = n := by
  unfold Builtin.Slice.slicePlaces
  rw [if_neg (by decide)]
  by_cases h : n = 0
  · subst h; rfl
  · rw [if_pos (by omega), show -(-1 : Int) = 1 from rfl, Int.ediv_one]
    omega
theorem fm_map {α β : Type} {f : α → Option β} {g : α → β} : ∀ {l : List α}, (∀ x ∈ l, f x = some (g x)) → l.filterMap f = l.map g
  | [], _ => rfl
  | x :: l, h => by rw [List.filterMap_cons, h x (by simp), List.map_cons, fm_map fun y hy => h y (by simp [hy])]
theorem pick_rev (xs : Array Value) : ((List.range xs.size).filterMap fun (k : Nat) => xs[((xs.size : Int) - 1 + (k : Int) * (-1)).toNat]?).toArray = xs.toList.reverse.toArray := by
  congr 1
  obtain ⟨l⟩ := xs
  show (List.range l.length).filterMap (fun (k : Nat) => l.toArray[((l.length : Int) - 1 + (k : Int) * (-1)).toNat]?) = l.reverse
  have e : ∀ k ∈ List.range l.length, l.toArray[((l.length : Int) - 1 + (k : Int) * (-1)).toNat]? = some (l.reverse.getD k default) := fun k hk => by
    have hk' := List.mem_range.mp hk
    have e1 : ((l.length : Int) - 1 + (k : Int) * (-1)).toNat = l.length - 1 - k := by omega
    rw [e1, List.getElem?_toArray, List.getD_eq_getElem?_getD, List.getElem?_reverse hk', List.getElem?_eq_getElem (by omega)]
    rfl
  have e2 : (List.range l.length).filterMap (fun (k : Nat) => l.toArray[((l.length : Int) - 1 + (k : Int) * (-1)).toNat]?) = (List.range l.length).map fun k => l.reverse.getD k default := fm_map e
  rw [e2]
  apply List.ext_getElem
  · simp
  · intro i h1 h2
    have h2' : i < l.length := by simpa using h2
    rw [List.getElem_map, List.getElem_range, List.getD_eq_getElem?_getD, List.getElem?_eq_getElem h2]
    rfl
section
variable {prog : Program} {w : World} {A : Around} {E : Value → Shared → Prop} {s : Shared}
theorem applied_rev {sl : Addr} {t : Tok} {n : Nat} {Q : Int × Int × Nat → Shared → Prop} (hs : s.heap.IsSliceOf sl .none .none (.int (-1) t)) (h : Q ((n : Int) - 1, -1, n) s) : wpAny (model prog w) A (Builtin.Slice.sliceApplied (.ref sl) (pure (n : Int))) Q E s := by
  obtain ⟨os, hos, hcs, hds⟩ := id hs
  unfold Builtin.Slice.sliceApplied Builtin.Slice.sliceFields
  refine wpAny_bind (wpAny_bind (wpAny_field hos hds (x := .none) rfl (wpAny_bind (wpAny_field hos hds (x := .none) rfl (wpAny_bind (wpAny_field hos hds (x := .int (-1) t) rfl (wpAny_pure ?_)))))))
  refine wpAny_bind (slicePart_int ?_)
  show wpAny _ _ (if ((-1 : Int) == 0) = true then _ else _) _ _ s
  rw [if_neg (by decide)]
  refine wpAny_bind (slicePart_none (wpAny_bind (slicePart_none (wpAny_bind (wpAny_pure ?_)))))
  show wpAny _ _ (match Builtin.Slice.sliceAdjust none none (-1) (n : Int) with | (lo, hi) => pure (lo, (-1 : Int), Builtin.Slice.slicePlaces lo hi (-1))) _ _ s
  rw [adj_rev]
  show wpAny _ _ (pure ((n : Int) - 1, (-1 : Int), Builtin.Slice.slicePlaces ((n : Int) - 1) (-1) (-1))) _ _ s
  rw [places_rev]
  exact wpAny_pure h
theorem item_rev {t sl : Addr} {items : Array Value} {tk : Tok} {Q : Value → Shared → Prop} (ht : IsTup s.heap t items) (hs : s.heap.IsSliceOf sl .none .none (.int (-1) tk))
    (h : Q (.ref s.heap.objs.size) { s with heap := s.heap.push { cls := .type "tuple", data := .seq items.toList.reverse.toArray } }) (hsz : items.size ≤ sizeLine) : wpAny (model prog w) A (getItem (.ref t) (.ref sl)) Q E s := by
  have fit : sizeOk (.seq items.toList.reverse.toArray) := by
    show items.toList.reverse.toArray.size ≤ sizeLine
    rw [List.size_toArray, List.length_reverse, Array.length_toList]; exact hsz
  obtain ⟨os, hos, hcs, hds⟩ := id hs
  have ty : s.TypeIs (.ref sl) "slice" := ⟨os, hos, hcs⟩
  unfold getItem
  try with_reducible refine wpAny_holding ?_
  first | refine wpAny_bind (wpAny_pure ?_) | skip
  refine wpAny_bind (wpAny_sequenceKey ht.typeIs (by decide) (wpAny_bind (wpAny_callSpecial?_slot (name := Str.ofString "__getitem__") ht.typeIs PyProof.Rows.slot_tuple_getitem (wpAny_call_entry PyProof.Rows.slot_tuple_getitem ht.typeIs entry_tuple_getitem ?_ (args_tuple_getitem _ _)))))
  show wpAny _ _ (Builtin.Tuple.tupleItemsOf (.ref t) >>= _) _ _ s
  refine wpAny_bind (tupleItemsOf_ ht (wpAny_bind (wpAny_typeOf ty ?_)))
  rw [if_pos (by decide)]
  refine wpAny_bind (applied_rev hs ?_)
  have no : ¬ ((((items.size : Int) - 1) == 0 && (-1 : Int) == 1 && items.size == items.size) = true) := by simp
  show wpAny _ _ (if (((items.size : Int) - 1) == 0 && (-1 : Int) == 1 && items.size == items.size) = true then _ else _) _ _ s
  rw [if_neg no, pick_rev]
  first
    | exact wpAny_bind (m := Builtin.Tuple.tupleExact _) (wpAny_newObj_type (wpAny_pure ⟨_, rfl, wpAny_pure h⟩) fit)
    | exact wpAny_bind (m := Builtin.Tuple.tupleExact _) (wpAny_newObj_type (wpAny_bind (wpAny_pure (wpAny_pure ⟨_, rfl, wpAny_pure h⟩))) fit)
    | exact wpAny_bind (wpAny_bind (m := Builtin.Tuple.tupleExact _) (wpAny_newObj_type (wpAny_pure (wpAny_pure ⟨_, rfl, wpAny_pure h⟩)) fit))
    | exact wpAny_bind (wpAny_bind (m := Builtin.Tuple.tupleExact _) (wpAny_newObj_type (wpAny_pure ⟨_, rfl, wpAny_pure h⟩) fit))
end
def tRevT (K : PySem.W.Frag) (te : TE) : TE := fun σ H Q => te σ H fun x H1 => ∃ a xs, x = .ref a ∧ SqT K H1 a xs ∧ NewT H1 xs.reverse Q
section
variable {X : Cx} {K : PySem.W.Frag}
theorem k_revT (hK : X.K = K) {e : Expr} {te : TE} {k : Nat} {p1 p2 p3 pos : Pos} (he : PE X e te) : PE X (.Subscript e (.Slice none none (some (.UnaryOp .USub (.Constant (.int 1) k p1) p2)) p3) pos) (tRevT K te) := by
  subst hK
  refine ⟨fun pins s σ H Q I h => Subscript_ (thn (he.run pins s σ H _ I h) fun v s1 ⟨x, H1, I1, r1, a, xs, ex, hx, q⟩ => ?_)⟩
  subst ex
  cases r1
  have st : PO X (some (.UnaryOp .USub (.Constant (.int 1) k p1) p2)) (tPart (tUn (rU fun i => .int (-i)) (tC (.int 1)))) := po_some (pe_un un_neg pe_int)
  refine wpAny_Slice (thn (po_none.run pins s1 σ H1 (fun o H2 => o = none ∧ H2 = H1) I1 ⟨rfl, rfl⟩) fun vl s2 ⟨l, H2, I2, pl, el, e2⟩ => ?_)
  subst el e2
  refine thn (po_none.run pins s2 σ H2 (fun o H3 => o = none ∧ H3 = H2) I2 ⟨rfl, rfl⟩) fun vu s3 ⟨u, H3, I3, pu, eu, e3⟩ => ?_
  subst eu e3
  refine thn (st.run pins s3 σ H3 (fun o H4 => o = some (-1) ∧ H4 = H3) I3 ⟨1, rfl, -1, rfl, rfl, rfl⟩) fun vs s4 ⟨o, H4, I4, ps, eo, e4⟩ => ?_
  subst eo e4
  cases pl
  cases pu
  cases ps with
  | int _ tk =>
    have I5 : Inv X pins σ H4 { s4 with heap := s4.heap.push { cls := .type "slice", data := .fields #[.none, .none, .int (-1) tk] } } := I4.kept (t' := s4.toks) fun b ob q => Heap.get?_push_of_some _ q
    obtain ⟨its, r, ht, hz⟩ := I5.tuple hx
    have ll := r.length
    show wpAny (model X.prog X.w) X.A (subscriptTail e (.Slice none none (some (.UnaryOp .USub (.Constant (.int 1) k p1) p2)) p3) (.ref a) (.ref s4.heap.objs.size)) (EP X pins σ Q) X.xe _
    refine tail_any (ops := [.ref a, .ref s4.heap.objs.size]) ht.typeIs (PyProof.Rows.slot_tuple_getitem.lookup) ?_ (by with_unfolding_all rfl)
    refine item_rev ht (Heap.IsSliceOf.new _ _ _ _) ?_ (by rw [List.size_toArray]; omega)
    exact ⟨.ref _, _, Inv.newT (t' := s4.toks) I5 (fun b ob q => Heap.get?_push_of_some _ q) (Nat.le_refl _) (by rw [List.length_reverse]; exact hz) r.reverse (Heap.get?_push_size _ rfl) rfl ⟨_, rfl⟩, rfl, q _ _ (I5.hok.fresh (Nat.le_refl _)) rfl⟩
end

/-! ## the same over data -/
theorem RpL.rev {K : PySem.W.Frag} {H : Hp} : ∀ {v : List V} {d : List D}, RpL K H v d → RpL K H v.reverse d.reverse
  | _, _, .nil => .nil
  | _, _, .cons a b => by rw [List.reverse_cons, List.reverse_cons]; exact (RpL.rev b).app (.cons a .nil)
theorem RpL.rep {K : PySem.W.Frag} {H : Hp} {v : List V} {d : List D} (h : RpL K H v d) : ∀ k : Nat, RpL K H (List.replicate k v).flatten (List.replicate k d).flatten
  | 0 => .nil
  | k + 1 => by
    rw [List.replicate_succ, List.flatten_cons, List.replicate_succ, List.flatten_cons]
    exact h.app (RpL.rep h k)
section
variable {W : Wo} {n : Nat} {env : List E} {Φ : D → Nat → Prop} {te : TE} {i : Nat} {x : D}
theorem wp_revT (q : Wp W te n env fun x n1 => ∃ xs, x = .tup xs ∧ Φ (.tup xs.reverse) n1) : Wp W (tRevT W.K te) n env Φ := fun σ stk vs H Q w k =>
  q σ stk vs H _ w fun v d n1 H1 q1 w1 => by
    obtain ⟨xs, rfl, q1⟩ := q1
    obtain ⟨U, s, h, f, g⟩ := w1.view1
    cases h with
    | tup a b =>
      refine ⟨_, _, rfl, same_sqT s a, fun p o hp hd => ?_⟩
      obtain ⟨U', s', e, g⟩ := g p (.frz o (.tup _)) hp
      exact k _ _ n1 _ q1 (g _ _ (.tup ⟨o, e, hd⟩ (b.rev.mono s')))
theorem wp_dnew (q : Φ (.dct []) n) : Wp W tDNewK n env Φ := fun σ stk vs H Q w k p hp =>
  k _ _ n _ q (Wd.new (ds := []) (us := []) w rfl hp fun U hu _ => .dct (.inl hu) .nil)
theorem wp_disp1 {z : Str} {v : V} (hv : ∀ K U, Rp K U v x) (q : Φ (.dct [(.inr z, x)]) n) : Wp W (tDisp [(tC (.str z), tC v)]) n env Φ := fun σ stk vs H Q w k p hp => by
  refine ⟨upd_same, [(.inr z, v)], rfl, (by show 1 ≤ 15; decide), ?_⟩
  rw [upd_upd]
  exact k _ _ n _ q (Wd.new (ds := []) (us := []) w rfl hp fun U hu _ => .dct (.inl hu) (.cons (hv _ U) .nil))
theorem wp_disp1v {z : Str} (hi : env[i]? = some (.d x)) (q : Φ (.dct [(.inr z, x)]) n) : Wp W (tDisp [(tC (.str z), tVar i)]) n env Φ := fun σ stk vs H Q w k p hp => by
  obtain ⟨kk, hh, pp, M1, M2, a, nd, b, c⟩ := w
  obtain ⟨v, e, r⟩ := b.getD hi
  refine ⟨v, e, upd_same, [(.inr z, v)], rfl, (by show 1 ≤ 15; decide), ?_⟩
  rw [upd_upd]
  have w : Wd W n env σ (.d x :: stk) (some v :: vs) H := ⟨kk, hh, pp, M1, M2, a, nd, b, ⟨_, rfl, r⟩, c⟩
  exact k _ _ n _ q (Wd.new (ds := [x]) (us := [v]) w rfl hp fun U hu rl => by
    cases rl with
    | cons r _ => exact .dct (.inl hu) (.cons r .nil))
end
end FR
namespace FR
open PySem PySem.Spec PyProof.Rows L2
variable [TheW]

/-! ## how long the text of a datum can be -/
def strFine (z : Str) : Bool := z.cps.toList.all fun c => decide (c < 0x110000)
def keyFine : Key → Bool
  | .inl i => decide (i.natAbs < 10 ^ 20)
  | .inr z => strFine z
def keyWt : Key → Nat
  | .inl _ => 40
  | .inr z => 10 * z.length + 2
mutual
def fineD : D → Bool
  | .ty _ => false
  | .lsq _ => false
  | .dcT _ => false
  | .ins _ _ _ _ => false
  | .tpk _ => false
  | .int i => decide (i.natAbs < 10 ^ 20)
  | .str z => strFine z
  | .lst xs => fineL xs
  | .tup xs => fineL xs
  | .dct kvs => fineK kvs
  | _ => true
def fineL : List D → Bool
  | [] => true
  | x :: xs => fineD x && fineL xs
def fineK : List (Key × D) → Bool
  | [] => true
  | (k, x) :: xs => keyFine k && fineD x && fineK xs
end
mutual
def wt : D → Nat
  | .str z => 10 * z.length + 2
  | .lst xs => wtL xs + 4
  | .tup xs => wtL xs + 4
  | .dct kvs => wtK kvs + 4
  | _ => 40
def wtL : List D → Nat
  | [] => 0
  | x :: xs => wt x + 2 + wtL xs
def wtK : List (Key × D) → Nat
  | [] => 0
  | (k, x) :: xs => keyWt k + 2 + wt x + 2 + wtK xs
end
mutual
def dp : D → Nat
  | .lst xs => dpL xs + 1
  | .tup xs => dpL xs + 1
  | .dct kvs => dpK kvs + 1
  | .lsq xs => dpL xs + 1
  | _ => 0
def dpL : List D → Nat
  | [] => 0
  | x :: xs => max (dp x) (dpL xs)
def dpK : List (Key × D) → Nat
  | [] => 0
  | (_, x) :: xs => max (dp x) (dpK xs)
end
theorem key_depth (k : Key) : (keyP k).depth = 0 := by cases k <;> rfl
mutual
theorem dp_py : ∀ d : D, (py d).depth = dp d
  | .non => rfl
  | .bl _ => rfl
  | .int _ => rfl
  | .str _ => rfl
  | .ty _ => rfl
  | .lst xs => by rw [py, PyData.depth, dp, dpL_py xs]
  | .tup xs => by rw [py, PyData.depth, dp, dpL_py xs]
  | .lsq xs => by rw [py, PyData.depth, dp, dpL_py xs]
  | .dct xs => by rw [py, PyData.depth, dp, dpK_py xs]
  | .dcT xs => rfl
  | .ins _ _ _ xs => rfl
  | .tpk xs => rfl
theorem dpL_py : ∀ d : List D, PyData.depthAll (pyL d) = dpL d
  | [] => rfl
  | x :: xs => by rw [pyL, PyData.depthAll, dpL, dp_py x, dpL_py xs]
theorem dpK_py : ∀ d : List (Key × D), PyData.depthKv (pyK d) = dpK d
  | [] => rfl
  | (k, x) :: xs => by rw [pyK, PyData.depthKv, dpK, dp_py x, dpK_py xs, key_depth]; simp
end
theorem str_len {z : Str} (h : strFine z = true) : (reprText z).length ≤ 10 * z.length + 2 := PySem.StrLaws.reprText_len z fun c hc => by
  have := of_decide_eq_true (List.all_eq_true.mp h c hc)
  have e : (16 : Nat) ^ 8 = 4294967296 := by decide
  omega
theorem int_len {i : Int} (h : i.natAbs < 10 ^ 20) : (Str.ofString (toString i)).length ≤ 40 := by
  have e := int_text_length_le10 (k := 20) (by decide) h
  rw [PySem.ofString_length]; omega
theorem join_le (ts : List Str) : (Str.join ", " ts).length ≤ piled ts := by
  by_cases h : ts = []
  · subst h; exact Nat.le_refl _
  · have := join_length_add ts h; omega
theorem tupleText_le (ts : List Str) : (tupleText ts).length ≤ piled ts + 4 := by
  unfold tupleText
  rw [strLen_append, strLen_append]
  have e1 : ((("(" : String) : Str)).length = 1 := rfl
  have e3 : (((if ts.length == 1 then ",)" else ")" : String) : Str)).length ≤ 2 := by split <;> decide
  have := join_le ts
  omega
theorem dictText_le (ts : List Str) : (dictText ts).length ≤ piled ts + 4 := by
  unfold dictText
  rw [strLen_append, strLen_append]
  have e1 : ((("{" : String) : Str)).length = 1 := rfl
  have e3 : ((("}" : String) : Str)).length = 1 := rfl
  have := join_le ts
  omega
theorem listText_le (ts : List Str) : (listText ts).length ≤ piled ts + 4 := by
  unfold listText
  rw [strLen_append]
  have e3 : ((("]" : String) : Str)).length = 1 := rfl
  cases ts with
  | nil => show ((("[" : String) : Str)).length + _ ≤ _; rw [e3]; decide
  | cons t r =>
    have h := textFrom_length_pos r 1 (("[" : Str) ++ (if 0 > 0 then ", " else "" : String) ++ t) (by decide)
    have e : (textFrom 0 "[" (t :: r)).length = (textFrom 1 (("[" : Str) ++ (if 0 > 0 then ", " else "" : String) ++ t) r).length := rfl
    rw [e, h, strLen_append, strLen_append, piled_cons, e3]
    have e1 : ((("[" : String) : Str)).length = 1 := rfl
    have e2 : (((if 0 > 0 then ", " else "" : String) : Str)).length = 0 := rfl
    omega
theorem key_show {k : Key} (h : keyFine k = true) : (keyP k).shown.length ≤ keyWt k ∧ (keyP k).showable = true := by
  cases k with
  | inl i =>
    have h' := of_decide_eq_true h
    refine ⟨int_len h', ?_⟩
    show decide (i.natAbs.log2 < 1920) = true
    rw [decide_eq_true_eq]
    by_cases h0 : i.natAbs = 0
    · rw [h0]; decide
    · exact (Nat.log2_lt h0).mpr (Nat.lt_trans h' (by decide +kernel))
  | inr z => exact ⟨str_len h, rfl⟩
mutual
theorem show_le : ∀ {d : D}, fineD d = true → (py d).shown.length ≤ wt d ∧ (py d).showable = true ∧ noTy d = true
  | .non, _ => ⟨by decide, rfl, rfl⟩
  | .bl b, _ => ⟨by cases b <;> decide, rfl, rfl⟩
  | .int i, h => ⟨(key_show (k := .inl i) h).1, (key_show (k := .inl i) h).2, rfl⟩
  | .str z, h => ⟨str_len h, rfl, rfl⟩
  | .ty _, h => by cases h
  | .lsq _, h => by rw [fineD] at h; cases h
  | .dcT _, h => by rw [fineD] at h; cases h
  | .ins _ _ _ _, h => by rw [fineD] at h; cases h
  | .tpk _, h => by rw [fineD] at h; cases h
  | .lst xs, h => by
    rw [fineD] at h
    obtain ⟨h1, h2, h3⟩ := show_leL h
    rw [py, PyData.shown, PyData.showable, wt, noTy]
    exact ⟨Nat.le_trans (listText_le _) (by omega), h2, h3⟩
  | .tup xs, h => by
    rw [fineD] at h
    obtain ⟨h1, h2, h3⟩ := show_leL h
    rw [py, PyData.shown, PyData.showable, wt, noTy]
    exact ⟨Nat.le_trans (tupleText_le _) (by omega), h2, h3⟩
  | .dct xs, h => by
    rw [fineD] at h
    obtain ⟨h1, h2, h3⟩ := show_leK h
    rw [py, PyData.shown, PyData.showable, wt, noTy]
    exact ⟨Nat.le_trans (dictText_le _) (by omega), h2, h3⟩
theorem show_leL : ∀ {d : List D}, fineL d = true → piled (PyData.shownAll (pyL d)) ≤ wtL d ∧ PyData.showableAll (pyL d) = true ∧ noTyL d = true
  | [], _ => ⟨Nat.le_refl _, rfl, rfl⟩
  | x :: xs, h => by
    rw [fineL, Bool.and_eq_true] at h
    obtain ⟨a1, a2, a3⟩ := show_le h.1
    obtain ⟨b1, b2, b3⟩ := show_leL h.2
    rw [pyL, PyData.shownAll, piled_cons, PyData.showableAll, wtL, noTyL, a2, a3, b2, b3]
    exact ⟨by omega, rfl, rfl⟩
theorem show_leK : ∀ {d : List (Key × D)}, fineK d = true → piled (PyData.shownKv (pyK d)) ≤ wtK d ∧ PyData.showableKv (pyK d) = true ∧ noTyK d = true
  | [], _ => ⟨Nat.le_refl _, rfl, rfl⟩
  | (k, x) :: xs, h => by
    rw [fineK, Bool.and_eq_true, Bool.and_eq_true] at h
    obtain ⟨k1, k2⟩ := key_show h.1.1
    obtain ⟨a1, a2, a3⟩ := show_le h.1.2
    obtain ⟨b1, b2, b3⟩ := show_leK h.2
    rw [pyK, PyData.shownKv, piled_cons, PyData.showableKv, wtK, noTyK, a2, a3, b2, b3, k2, strLen_append, strLen_append]
    have e : ((((": " : String)) : Str)).length = 2 := rfl
    exact ⟨by omega, rfl, rfl⟩
end
theorem canShow_of {d : D} (h : fineD d = true) (h1 : dp d ≤ 100) (h2 : wt d ≤ 16000000) : canShow d = true := by
  obtain ⟨a, b, c⟩ := show_le h
  unfold canShow
  rw [b, c, dp_py, Bool.true_and, Bool.true_and, Bool.and_eq_true, decide_eq_true_eq, decide_eq_true_eq, sizeLine_eq]
  exact ⟨h1, by omega⟩

/-! ## t == () -/
section
variable {X : Cx} {K : PySem.W.Frag}
theorem k_eqE (hK : X.K = K) (hu : X.A.units + 64 < cLine) : OpR X (compareOp .Eq) (fun x y H Q => ∃ a b xs, x = .ref a ∧ y = .ref b ∧ SqT K H a xs ∧ SqT K H b [] ∧ Q (.bl xs.isEmpty) H) := by
  subst hK
  intro pins s σ H x y v u Q I rx ry h
  obtain ⟨a, b, xs, rfl, rfl, h1, h2, q⟩ := h
  cases rx
  cases ry
  obtain ⟨its, r1, p1, _⟩ := I.tuple h1
  obtain ⟨its2, r2, p2, _⟩ := I.tuple h2
  cases r2
  obtain ⟨o1, a1, a2, n1, a3⟩ := p1
  obtain ⟨o2, b1, b2, n2, b3⟩ := p2
  refine SeqAt.eq_tupleAt (e := fun _ => true) ⟨o1, a1, a2, n1, a3⟩ ⟨o2, b1, b2, n2, b3⟩ (by omega) (fun j h1 h2 => absurd h2 (Nat.not_lt_zero _)) ⟨.bl _, H, I, rfl, ?_⟩
  have e : ((List.range (min its.toArray.size ([] : List Value).toArray.size)).all (fun _ => true) && its.toArray.size == ([] : List Value).toArray.size) = xs.isEmpty := by
    have := r1.length
    cases xs with
    | nil => cases its with
      | nil => rfl
      | cons _ _ => simp at this
    | cons _ _ => cases its with
      | nil => simp at this
      | cons _ _ => rfl
  rw [e]
  exact q
end
section
variable {W : Wo} {n : Nat} {env stk : List E} {σ : L2.St} {vs : L2.St} {H : Hp} {Φ : D → Nat → Prop} {O : Out} {te tx : TE} {i j : Nat} {xs : List D} {y : D} {vy : V}
theorem op_eqE (q : Φ (.bl xs.isEmpty) n) : Op2 W (fun x y H Q => ∃ a b xs, x = .ref a ∧ y = .ref b ∧ SqT W.K H a xs ∧ SqT W.K H b [] ∧ Q (.bl xs.isEmpty) H) n (.tup xs) (.tup []) Φ :=
  op2_pure (v := .bl xs.isEmpty) (fun vx vy H Q h1 h2 k => by
    cases h1 with
    | tup a b =>
      cases h2 with
      | tup c d =>
        cases d
        refine ⟨_, _, _, rfl, rfl, a.sq, c.sq, ?_⟩
        cases b with
        | nil => exact k
        | cons _ _ => exact k) (fun _ _ => .bl _) q
end
end FR
namespace FR
open PySem L2
variable [TheW]
section
variable {W : Wo} {n m : Nat} {env stk : List E} {σ : St} {vs : St} {H H' : Hp} {d x y : D} {v vx vy : V} {i j : Nat} {Φ : D → Nat → Prop} {O : Out} {te tx : TE} {ta : TA} {xs : List D}
theorem RpL.put {K : PySem.W.Frag} {U : Hp} : ∀ {v : List V} {d : List D} (i : Nat) {u : V} {y : D}, RpL K U v d → Rp K U u y → RpL K U (v.set i u) (d.set i y)
  | _, _, _, _, _, .nil, _ => .nil
  | _, _, 0, _, _, .cons _ b, h => .cons h b
  | _, _, i + 1, _, _, .cons a b, h => .cons a (RpL.put i b h)
theorem wp_ixOwn (hi : env[i]? = some (.own (.lst xs))) (q : Wp W tx n env fun z n' => ∃ k, z = .int k ∧ ∃ d, atI xs k = some d ∧ Φ d n') : Wp W (tOp (rIxL W.K) (tVar i) tx) n env Φ := fun σ stk vs H Q w k => by
  obtain ⟨p, ws, e1, e2, e3⟩ := w.ownAt hi
  refine ⟨.ref p, e1, q σ stk vs H _ w fun vz z n' H' q' w' => ?_⟩
  obtain ⟨kk, rfl, d, ed, qd⟩ := q'
  have hz := w'.top
  cases hz
  have w2 := w'.pop
  have w3 := w2
  obtain ⟨k1, h1, pp, M1, M2, a, nd, b, c⟩ := w2
  obtain ⟨p', Ma, Mb, u', f1, f2, f3, f4, _⟩ := b.owned hi
  rw [e1] at f2
  cases f2
  cases f4 with | @lst ws' _ f4 => ?_
  unfold atI at ed
  obtain ⟨jj, g1, g2⟩ := Option.bind_eq_some_iff.mp ed
  obtain ⟨u, g3, r⟩ := f4.get g2
  exact ⟨p, ws', kk, u, rfl, rfl, .inl (.inl f3), by unfold atI; rw [f4.len, g1]; exact g3, k u d n' H' qd ⟨k1, h1, pp, M1, M2, a, nd, b, ⟨u, rfl, r⟩, c⟩⟩
theorem ws_setOwn (hi : env[i]? = some (.own (.lst xs))) (q : Wp W te n env fun y n1 => Wp W tx n1 env fun z n2 => ∃ k j, z = .int k ∧ ixN xs.length k = some j ∧ O.nx (env.set i (.own (.lst (xs.set j y)))) n2) :
    WpS W (tAsg te (gSub (tVar i) tx rSetL)) n env O := fun σ stk vs H De w f =>
  q σ stk vs H _ w fun vy y n1 H1 q1 w1 => by
    obtain ⟨p, ws, e1, e2, e3⟩ := w1.pop.ownAt hi
    refine ⟨.ref p, e1, q1 σ _ _ H1 _ w1 fun vz z n2 H2 q2 w2 => ?_⟩
    obtain ⟨k, j, rfl, hj, qn⟩ := q2
    have hz := w2.top
    cases hz
    obtain ⟨p', ws', f1, f2, f3⟩ := w2.pop.pop.ownAt hi
    rw [e1] at f1
    cases f1
    exact ⟨p, ws', k, j, rfl, rfl, f2, by rw [f3]; exact hj, f.nx _ _ _ n2 qn (w2.pop.ownPutO hi e1 f2 fun U _ r1 r2 => by cases r1 with | lst r1 => exact .lst (r1.put j r2))⟩
theorem Wd.listOwn (w : Wd W n env σ (.d (.tup xs) :: stk) (some v :: vs) H) : ∃ a zs, v = .ref a ∧ SqT W.K H a zs ∧ ∀ p, H p = Option.none → Wd W n env σ (.own (.lst xs) :: stk) (some (.ref p) :: vs) (upd H p (.lst zs)) := by
  have w2 := w
  obtain ⟨k, h, pp, M1, M2, a, nd, b, c⟩ := w
  obtain ⟨⟨u, eu, ru⟩, c⟩ := c
  cases eu
  cases ru with
  | @tup aa zs _ h1 h2 =>
    refine ⟨aa, zs, rfl, same_sqT (era_sub _ _) h1, fun p hp => ?_⟩
    have w3 := w2.mono (same_new (o := .lst zs) hp)
    have e : Same H (upd H p (.lst zs)) := same_new hp
    have np : p ∉ M1 ++ M2 := fun z => (a p z).2 hp
    have np0 : W.H0 p = Option.none := by
      cases q : W.H0 p with
      | none => rfl
      | some o =>
        by_cases z : W.P = some p
        · exact absurd hp ((pp p z).2.there)
        · rw [k p o z q] at hp; cases hp
    have e2 : Same (era H (W.M0 ++ (M1 ++ M2))) (era (upd H p (.lst zs)) (W.M0 ++ (M1 ++ p :: M2))) := fun b o hb => by
      obtain ⟨h1, h2⟩ := era_some hb
      refine era_of (e _ _ h1) fun z => h2 ?_
      have nb : b ≠ p := ne_of_none h1 hp
      simp only [List.mem_append, List.mem_cons] at z ⊢
      rcases z with z | z | z | z
      · exact .inl z
      · exact .inr (.inl z)
      · exact absurd z nb
      · exact .inr (.inr z)
    refine ⟨w3.keep, h, w3.pot, M1, p :: M2, fun q hq => ?_, ?_, b.mono e2 e, ⟨_, rfl, upd_same, .lst (h2.mono e2)⟩, c.mono e2 e⟩
    · by_cases z : q = p
      · subst z; exact ⟨np0, by rw [upd_same]; exact fun z => by cases z⟩
      · rw [upd_ne z]
        refine a q ?_
        simp only [List.mem_append, List.mem_cons] at hq ⊢
        rcases hq with hq | hq | hq
        · exact .inl hq
        · exact absurd hq z
        · exact .inr hq
    · refine (List.perm_middle.nodup_iff).mpr ?_
      exact List.nodup_cons.mpr ⟨np, nd⟩
/-- a, b = e, list(t): the new list is owned -/
theorem ws_parOwn {tl : TA} (hij : i ≠ j) (hj : j < env.length) (hn : ∀ zs, env[j]? ≠ some (.own zs)) (q : Wp W te n env fun y n1 => WpA W tl n1 env fun ds n2 => ∃ xs, ds = [.tup xs] ∧ O.nx ((env.set i (.d y)).set j (.own (.lst xs))) n2) :
    WpS W (tPar i j (tCons te (tCons (tCB (fun xs H Q => ∃ p ys, xs = [.ref p] ∧ (SqL W.K H p ys ∨ SqT W.K H p ys) ∧ ∀ l, H l = Option.none → Q (.ref l) (upd H l (.lst ys))) tl) tNil))) n env O := fun σ stk vs H De w f =>
  q σ stk vs H _ w fun vy y n1 H1 q1 w1 => q1 σ _ _ H1 _ w1 fun us ds n2 H2 q2 l w2 => by
    obtain ⟨xs, rfl, qn⟩ := q2
    match us, l with
    | [u], _ =>
      have w3 : Wd W n2 env σ (.d (.tup xs) :: .d y :: stk) (some u :: some vy :: vs) H2 := w2
      obtain ⟨a, zs, rfl, h1, g⟩ := w3.listOwn
      refine ⟨a, zs, rfl, .inr h1, fun p hp => ⟨vy, .ref p, rfl, ?_⟩⟩
      have w4 := ((g p hp).ownSet j hj hn).set i
      rw [List.set_comm _ _ (Ne.symm hij), List.set_comm _ _ (Ne.symm hij)] at w4
      exact f.nx _ _ _ n2 qn w4
end
end FR
namespace FR
open PySem PySem.Spec PyProof.Rows L2
variable [TheW]

/-! ## methods -/
section
variable {X : Cx} {k : Nat} {f C : Addr} {fd : FuncData} {ps : List Str} {sp : Sp} {m x : Str} {p pos apos : Pos} {o e : Expr} {es : List Expr} {t : TA} {ta : TE}
theorem run_fnG (F : FnG X.prog X.w X.K X.mg X.base k f fd ps sp) (gu : X.A.guards = some []) (hr : Room k X.A) (hb : Binds X.K fd ps []) {pins : List (Addr × Obj)} {σ : L2.St} {H1 : Hp} {s1 : Shared} {Q : VK} {us : List Value} {vs : List V}
    (I1 : Inv X pins σ H1 s1) (r : Vals vs us) (q : sp (vs ++ []) H1 Q E0) : wpAny (model X.prog X.w) X.A (call (.ref f) us) (EP X pins σ Q) X.xe s1 := by
  have r2 : Vals (vs ++ []) (us ++ []) := r.append .nil
  have ll : (us ++ ([] : List Value)).length = ps.length := by rw [← r2.length]; exact F.len _ _ _ _ q
  refine wpAny_call (codeAny_mono (F.run X.A X.stack s1 H1 ⟨us, []⟩ (us ++ []) (vs ++ []) Q E0 gu hr I1.env0 (hb s1 us I1.kIn ll) r2 q) fun rr s2 hq => ?_)
  cases rr with
  | error e => exact hq.elim
  | ok fl =>
    cases fl with
    | ret u => exact I1.after hq
    | next => exact hq.elim
    | brk => exact hq.elim
    | cont => exact hq.elim
end
/-- the class at C has this method -/
def HasM (P : Program) (w : World) (K : PySem.W.Frag) (mg : Str → Option Value) (base : Heap) (k : Nat) (C : Addr) (m : Str) (ps : List Str) (sp : Sp) : Prop :=
  ∃ f fd, FnG P w K mg base k f fd ps sp ∧ Cls K C ∧ Meth K C m f ∧ Binds K fd ps []
/-- the text has this method -/
def MethIn (K : PySem.W.Frag) (C : Addr) (m q : Str) (st : Stmt) (ps : List Str) : Prop := ∃ f fd, Fun K m q st f fd ∧ Cls K C ∧ Meth K C m f ∧ Binds K fd ps []
section
variable {P : Program} {w : World} {K : PySem.W.Frag} {mg : Str → Option Value} {base : Heap} {k : Nat} {C : Addr} {m q : Str} {st : Stmt} {N ps : List Str}
theorem HasM.mono {j : Nat} {sp : Sp} (h : HasM P w K mg base j C m ps sp) (l : j ≤ k) : HasM P w K mg base k C m ps sp := by
  obtain ⟨a, fd, h1, h2⟩ := h
  exact ⟨a, fd, h1.mono l, h2⟩
theorem hasM_D {Cc : List D → (D → Prop) → Prop} (Dd : MethIn K C m q st ps) (S : FnScope N ps (defScope st)) (len : ∀ ds Φ, Cc ds Φ → ds.length = ps.length)
    (hb : ∀ (f : Addr) (cdv : Value) (B : Around) (out : List Env) (t : Shared) (H : Hp) (E : XK), B.guards = some [] → Room k (B.deeper (envOfC q (defScope st) t.heap.objs.size f cdv)) →
      ∃ r, PSs (cxOf CX0 P w K mg base N q (defScope st) f cdv B out t H E).nox (defBody st) r ∧ ∀ (W : Wo) ds Φ, W.K = K → Cc ds Φ → WpS W r 0 (envD N ds) { nx := fun _ _ => Φ .non, rt := fun d _ => Φ d }) :
    HasM P w K mg base (k + 1) C m ps (spD K Cc) := by
  obtain ⟨a, fd, F, hc, hm, hbi⟩ := Dd
  refine ⟨a, fd, fnG_of F S (fun vs H Q E h => ?_) (fun cdv B out t H vs Q E gu hr h => ?_), hc, hm, hbi⟩
  · obtain ⟨M, ds, Φ, _, r, c, _⟩ := h
    rw [r.len, len ds Φ c]
  · obtain ⟨r, h1, h2⟩ := hb a cdv B out t H E gu hr
    exact ⟨r, h1, D_body h h2⟩
end
section
variable {X : Cx} {k : Nat} {C : Addr} {ps : List Str} {sp : Sp} {m : Str} {pos apos : Pos} {o e : Expr} {es : List Expr} {t : TA} {ta : TE}
theorem pe_hasM {pl : Sem Bool} (h : HasM X.prog X.w X.K X.mg X.base k C m ps sp) (gu : X.A.guards = some []) (hr : Room k X.A) (he : PE X o ta) (ha : PA X (e :: es) t)
    (hst : starEach (e :: es) X.env = (false, eval e X.env) :: starEach es X.env := by rfl) (hpl : (backTo pos (starEach es X.env)).any (·.1) = false := by rfl)
    (ht : eval (.Call (.Attribute o m apos) (e :: es) [] pos) X.env = (do
      let ov ← eval o X.env
      standAt apos.atName
      let (f, first) ← holding [ov] (getMethod ov m pl)
      callWith pos f first (backTo pos (starEach (e :: es) X.env)) (backToKw pos (keywordEach [] X.env))) := by rfl) :
    PE X (.Call (.Attribute o m apos) (e :: es) [] pos) (tMeth C m sp [] E0 ta t) := by
  obtain ⟨f, fd, F, c, hm, hb⟩ := h
  refine ⟨fun pins s σ H Q I h => ?_⟩
  refine PySem.W.methodCall_KW (pl := pl) (thn (he.run pins s σ H _ I h) fun u s1 ⟨x, H1, I1, rx, a, dx, fs, ex, ea, l, q⟩ => ?_) ht
  subst ex
  obtain rfl : u = Value.ref a := rx
  refine getmeth_ok I1 ea c hm l ?_
  refine PySem.W.callWith_K (first := [.ref a]) (h₀ := X.base) I.ok.mod.kin hm.kp (thn (ha.run pos pins s1 σ H1 _ I1 q) fun us s2 ⟨vs, H2, I2, r, q2⟩ => ⟨I2.kIn, ?_⟩) hst hpl
  exact run_fnG (us := .ref a :: us) (vs := .ref a :: vs) F gu hr hb I2 (.cons rfl r) q2
end
section
variable {K : PySem.W.Frag} {U : Hp}
theorem RpF.lookup {f : Str} : ∀ {fs : List (Str × V)} {ds : List (Str × D)}, RpF K U fs ds → ∀ {d : D}, ds.lookup f = some d → ∃ v, fs.lookup f = some v ∧ Rp K U v d
  | _, _, .nil, _, h => by cases h
  | _, _, .cons (k := k) a b, d, h => by
    rw [List.lookup_cons] at h ⊢
    cases e : f == k with
    | true => rw [e] at h; cases h; exact ⟨_, rfl, a⟩
    | false => rw [e] at h; exact RpF.lookup b h
theorem RpF.lookupN {f : Str} : ∀ {fs : List (Str × V)} {ds : List (Str × D)}, RpF K U fs ds → ds.lookup f = none → fs.lookup f = none
  | _, _, .nil, h => rfl
  | _, _, .cons (k := k) a b, h => by
    rw [List.lookup_cons] at h ⊢
    cases e : f == k with
    | true => rw [e] at h; cases h
    | false => rw [e] at h; exact RpF.lookupN b h
theorem RpF.len : ∀ {fs : List (Str × V)} {ds : List (Str × D)}, RpF K U fs ds → fs.length = ds.length
  | _, _, .nil => rfl
  | _, _, .cons _ b => by rw [List.length_cons, List.length_cons, RpF.len b]
end
section
variable {W : Wo} {n m : Nat} {env stk : List E} {σ : L2.St} {ds : List D} {vs : L2.St} {us : List V} {H H' : Hp} {d x y : D} {v vx vy : V} {i j : Nat} {Φ : D → Nat → Prop} {O : Out} {te : TE} {ta : TA} {t : TS} {xs : List D} {C : Addr} {f : Str}
theorem Wd.call {Cc : List D → (D → Prop) → Prop} {Q : VK} {Ex : XK} (l : us.length = ds.length) (w' : Wd W n env σ (ds.map E.d ++ stk) (us.map some ++ vs) H) (q' : Cc ds fun d => Φ d n) (k : ∀ v d n' H', Φ d n' → Wd W n' env σ (.d d :: stk) (some v :: vs) H' → Q v H') : spD W.K Cc us H Q Ex := by
  have hid := w'.hidH
  obtain ⟨k1, h1, pp, M1, M2, a, nd, b, c⟩ := w'
  obtain ⟨c1, c2⟩ := EnvOk.toL l c
  refine ⟨W.M0 ++ (M1 ++ M2), ds, _, fun p hp => ?_, c1, q', fun v d H2 p s r => k v d n H2 p ?_⟩
  · rcases List.mem_append.mp hp with z | z
    · exact hid p z
    · exact (a p z).2
  · refine ⟨fun b o n q => s _ _ (k1 b o n q), h1, fun q hq => ⟨(pp q hq).1, (pp q hq).2.mono s⟩, M1, M2, fun q hq => ⟨(a q hq).1, fun z => ?_⟩, nd, b.mono (era_mono _ s) s, ⟨v, rfl, r⟩, c2.mono (era_mono _ s) s⟩
    cases r : H q with
    | none => exact (a q hq).2 r
    | some o => rw [s _ _ r] at z; cases z
theorem wp_meth {Cc : List D → (D → Prop) → Prop} {Ex : XK} {mm : Str} (q : Wp W te n env fun x n1 => ∃ a dx fs, x = .ins C a dx fs ∧ fs.lookup mm = none ∧ WpA W ta n1 env fun ds n2 => Cc (x :: ds) fun d => Φ d n2) : Wp W (tMeth C mm (spD W.K Cc) [] Ex te ta) n env Φ := fun σ stk vs H Q w k =>
  q σ stk vs H _ w fun v d n1 H1 q1 w1 => by
    obtain ⟨a, dx, fs, rfl, hl, q1⟩ := q1
    have t := w1.top
    cases t with
    | @ins a0 _ dx0 _ _ _ _ ha hf =>
      refine ⟨a0, dx0, _, rfl, ha, hf.lookupN hl, q1 σ (.d _ :: stk) (some _ :: vs) H1 _ w1 fun us ds n2 H2 q2 l w2 => ?_⟩
      rw [List.append_nil]
      exact Wd.call (us := .ref a0 :: us) (ds := .ins C a dx fs :: ds) (by simp [l]) (Wd.swap l w2) q2 k
/-- e.f -/
theorem wp_fld (c : Cls W.K C) (na : NoAttr W.K C f) (q : Wp W te n env fun x n1 => ∃ a dx fs, x = .ins C a dx fs ∧ ∃ d, fs.lookup f = some d ∧ Φ d n1) : Wp W (tFld W.K te f) n env Φ := fun σ stk vs H Q w k =>
  q σ stk vs H _ w fun v d n1 H1 q1 w1 => by
    obtain ⟨a, dx, fs, rfl, d, hl, q1⟩ := q1
    obtain ⟨k1, h1, pp, M1, M2, aa, nd, b, cc⟩ := w1
    obtain ⟨⟨u, e, ru⟩, cc⟩ := cc
    cases e
    cases ru with
    | @ins a0 _ dx0 _ _ _ _ ha hf =>
      obtain ⟨u, hu, ru⟩ := hf.lookup hl
      exact ⟨a0, C, dx0, _, u, rfl, (era_some ha).1, c, na, hu, k u d n1 H1 q1 ⟨k1, h1, pp, M1, M2, aa, nd, b, ⟨u, rfl, ru⟩, cc⟩⟩
end
end FR
namespace FR
open PySem PySem.Spec PyProof.Rows L2
variable [TheW]
def putD (f : Str) (v : D) : List (Str × D) → List (Str × D)
  | [] => [(f, v)]
  | (g, x) :: r => if g = f then (g, v) :: r else (g, x) :: putD f v r
theorem RpF.put {K : PySem.W.Frag} {U : Hp} {f : Str} {v : V} {d : D} (h : Rp K U v d) : ∀ {fs : List (Str × V)} {ds : List (Str × D)}, RpF K U fs ds → RpF K U (putF f v fs) (putD f d ds)
  | _, _, .nil => .cons h .nil
  | _, _, .cons (k := k) a b => by
    unfold putF putD
    by_cases e : k = f
    · rw [if_pos e, if_pos e]; exact .cons h b
    · rw [if_neg e, if_neg e]; exact .cons a (RpF.put h b)

/-! ## new instances -/
/-- __init__: the instance at p is still empty; fs, its fields at the end -/
def spI (K : PySem.W.Frag) (Cl : Addr) (C : List D → (List (Str × D) → Prop) → Prop) : Sp := fun vs H Q _ => ∃ (M : List Addr) (p dx : Addr) (us : List V) (ds : List D) (Ψ : List (Str × D) → Prop), vs = .ref p :: us ∧ H p = some (.ins Cl dx []) ∧ p ∉ M ∧ (∀ q ∈ M, H q ≠ Option.none) ∧
  RpL K (era H (M ++ [p])) us ds ∧ C ds Ψ ∧ ∀ H' fvs fs, Ψ fs → (∀ b o, b ≠ p → H b = some o → H' b = some o) → H' p = some (.ins Cl dx fvs) → RpF K (era H' (M ++ [p])) fvs fs → Q .non H'
def envI (N : List Str) (x : D) (ds : List D) : List E := .own x :: (ds.map E.d ++ List.replicate (N.length - (ds.length + 1)) E.any)
section
variable {K : PySem.W.Frag} {N : List Str} {t : TS} {vs : List V} {H : Hp} {Q : VK} {Ex : XK} {Cl : Addr}
theorem I_body {C : List D → (List (Str × D) → Prop) → Prop} (h : spI K Cl C vs H Q Ex) (hw : ∀ (W : Wo) p dx ds Ψ, W.K = K → C ds Ψ → WpS W t 0 (envI N (.ins Cl p dx []) ds) { nx := fun env _ => ∃ fs, env[0]? = some (.own (.ins Cl p dx fs)) ∧ Ψ fs, rt := fun _ _ => False }) :
    t { nx := fun _ H' => Q .non H', rt := Q } (start N vs) H := by
  obtain ⟨M, p, dx, us, ds, Ψ, rfl, hp, hpM, hM, r, c, k⟩ := h
  have w : Wd ⟨K, Option.none, M, fun b => if b = p then none else H b⟩ 0 (envI N (.ins Cl p dx []) ds) (start N (.ref p :: us)) [] [] H := by
    refine ⟨fun b o _ e => ?_, fun q hq => ?_, fun p e => (by cases e), [p], [], fun q hq => ?_, by simp, ?_, trivial⟩
    · by_cases z : b = p
      · simp only [z, if_true] at e; cases e
      · simp only [z, if_false] at e; exact e
    · have z : q ≠ p := by rintro rfl; exact hpM hq
      simp only [z, if_false]; exact hM q hq
    · have z : q = p := by simpa using hq
      subst z
      exact ⟨by simp, by rw [hp]; exact fun z => by cases z⟩
    · have e : M ++ ([p] ++ []) = M ++ [p] := by simp
      show EnvOk _ (era H (M ++ ([p] ++ []))) H _ _ [p]
      rw [e]
      unfold envI L2.start
      rw [List.length_cons, r.len]
      exact ⟨⟨_, rfl, hp, .ins .nil⟩, EnvOk.ofL r (env_any _)⟩
  refine hw _ p dx ds Ψ rfl c _ _ _ _ _ w ⟨fun σ H' env n hh w' => ?_, fun v d n H' env σ z w' => z.elim, fun _ _ _ _ z => z.elim, fun _ _ _ _ z => z.elim⟩
  obtain ⟨fs, he, hΨ⟩ := hh
  obtain ⟨k1, h1, pp, M1, M2, a, nd, b, c⟩ := w'
  obtain ⟨p', Ma, Mb, u, e1, e2, e3, e4, _⟩ := b.owned he
  cases e4 with
  | ins hr =>
    refine k H' _ fs hΨ (fun b o hb e => k1 b o (fun z => by cases z) (by simp only [hb, if_false]; exact e)) e3 (hr.mono (era_less fun b hb => ?_))
    rcases List.mem_append.mp hb with z | z
    · exact List.mem_append_left _ z
    · have z : b = p := by simpa using z
      subst z
      refine List.mem_append_right _ (List.mem_append_left _ ?_)
      rw [e1]; simp
end
/-- the class at C is made by this __init__ -/
def HasI (P : Program) (w : World) (K : PySem.W.Frag) (mg : Str → Option Value) (base : Heap) (k : Nat) (C : Addr) (x : Str) (ps : List Str) (sp : Sp) : Prop :=
  ∃ f fd, FnG P w K mg base k f fd ps sp ∧ Mk K C f ∧ mg x = some (.ref C) ∧ Binds K fd ps []
def InitIn (K : PySem.W.Frag) (mg : Str → Option Value) (C : Addr) (x q : Str) (st : Stmt) (ps : List Str) : Prop := ∃ f fd, Fun K "__init__" q st f fd ∧ Mk K C f ∧ mg x = some (.ref C) ∧ Binds K fd ps []
section
variable {P : Program} {w : World} {K : PySem.W.Frag} {mg : Str → Option Value} {base : Heap} {k : Nat} {C : Addr} {x q : Str} {st : Stmt} {N ps : List Str}
theorem hasI_I {Cc : List D → (List (Str × D) → Prop) → Prop} (Dd : InitIn K mg C x q st ps) (S : FnScope N ps (defScope st)) (len : ∀ ds Φ, Cc ds Φ → ds.length + 1 = ps.length)
    (hb : ∀ (f : Addr) (cdv : Value) (B : Around) (out : List Env) (t : Shared) (H : Hp) (E : XK), B.guards = some [] → Room k (B.deeper (envOfC q (defScope st) t.heap.objs.size f cdv)) →
      ∃ r, PSs (cxOf CX0 P w K mg base N q (defScope st) f cdv B out t H E).nox (defBody st) r ∧ ∀ (W : Wo) p dx ds Ψ, W.K = K → Cc ds Ψ → WpS W r 0 (envI N (.ins C p dx []) ds) { nx := fun env _ => ∃ fs, env[0]? = some (.own (.ins C p dx fs)) ∧ Ψ fs, rt := fun _ _ => False }) :
    HasI P w K mg base (k + 1) C x ps (spI K C Cc) := by
  obtain ⟨a, fd, F, hm, hx, hbi⟩ := Dd
  refine ⟨a, fd, fnG_of F S (fun vs H Q E h => ?_) (fun cdv B out t H vs Q E gu hr h => ?_), hm, hx, hbi⟩
  · obtain ⟨M, p, dx, us, ds, Ψ, rfl, _, _, _, r, c, _⟩ := h
    rw [List.length_cons, r.len, len ds Ψ c]
  · obtain ⟨r, h1, h2⟩ := hb a cdv B out t H E gu hr
    exact ⟨r, h1, I_body h h2⟩
end
theorem guards_make {A : Around} (gu : A.guards = some []) (C : Addr) (us : List Value) (kw : List (Str × Value)) : (A.under (.builtin "type.__call__" ⟨.ref C :: us, kw⟩)).guards = some [] := by
  have e : Code.guards (.builtin "type.__call__" ⟨.ref C :: us, kw⟩) = [] := by
    unfold Code.guards Code.isGuard
    rfl
  simp [Around.under, e, pushGuards, gu]
section
variable {X : Cx} {k : Nat} {C : Addr} {ps : List Str} {sp : Sp} {x : Str} {p pos : Pos} {e : Expr} {es : List Expr} {t : TA}
theorem pe_hasI (h : HasI X.prog X.w X.K X.mg X.base k C x ps sp) (gu : X.A.guards = some []) (hr : Room (k + 1) X.A) (hg : Gl X x) (ha : PA X (e :: es) t) (hdb : (x == ("__debug__" : Str)) = false := by decide)
    (he : starEach (e :: es) X.env = (false, eval e X.env) :: starEach es X.env := by rfl) (hpl : (backTo pos (starEach es X.env)).any (·.1) = false := by rfl) :
    PE X (.Call (.Name x p) (e :: es) [] pos) (tMake C sp [] E0 t) := by
  obtain ⟨f, fd, F, M, hm, hb⟩ := h
  refine ⟨fun pins s σ H Q I h => ?_⟩
  refine wpAny_Call_Name_kw (ld_glob I hg hm ?_ hdb)
  refine PySem.W.callWith_K (h₀ := X.base) I.ok.mod.kin M.kp (thn (ha.run pos pins s σ H _ I h) fun us s1 ⟨vs, H1, I1, r, q⟩ => ⟨I1.kIn, ?_⟩) he hpl
  have hq := q (s1.heap.objs.size + 1) s1.heap.objs.size (I1.hok.fresh (Nat.le_succ _)) (I1.hok.fresh (Nat.le_refl _)) (Nat.ne_of_lt (Nat.lt_succ_self _))
  have I2 := Inv.made (C := C) I1
  have r2 : Vals (V.ref (s1.heap.objs.size + 1) :: (vs ++ [])) ((Value.ref (s1.heap.objs.size + 1) :: us) ++ []) := .cons rfl (r.append .nil)
  have hl : (Value.ref (s1.heap.objs.size + 1) :: us ++ []).length = ps.length := by
    have e := r2.length
    rw [F.len _ _ _ _ hq] at e
    exact e.symm
  refine wpAny_call (make_map (f := f) I1.kIn M.makes M.init (beq_iff_eq.mp M.fn) (codeAny_mono (F.run _ X.stack _ _ ⟨Value.ref (s1.heap.objs.size + 1) :: us, []⟩ ((Value.ref (s1.heap.objs.size + 1) :: us) ++ []) _ _ E0 (guards_make gu C us []) (hr.make C us [])
    (I2.env0.make C us []) (hb _ (Value.ref (s1.heap.objs.size + 1) :: us) I2.kIn hl) r2 hq) fun r s' hq' => ?_))
  cases r with
  | error e => exact hq'.elim
  | ok fl =>
    cases fl with
    | ret u =>
      obtain ⟨v, H', I3, rv, ev, q3⟩ := I2.after hq'
      subst ev
      exact ⟨rv, ⟨V.ref (s1.heap.objs.size + 1), H', I3, rfl, q3⟩⟩
    | next => exact False.elim hq'
    | brk => exact False.elim hq'
    | cont => exact False.elim hq'
end
end FR
namespace FR
open PySem PySem.Spec PyProof.Rows L2
variable [TheW]
section
variable {W : Wo} {n m : Nat} {env stk : List E} {σ : L2.St} {ds : List D} {vs : L2.St} {us : List V} {H H' : Hp} {d x y : D} {v vx vy : V} {i j : Nat} {Φ : D → Nat → Prop} {O : Out} {te : TE} {ta : TA} {t : TS} {xs : List D} {C p dx : Addr} {f : Str} {fs : List (Str × D)}
theorem wp_make {Cc : List D → (List (Str × D) → Prop) → Prop} {Ex : XK} (q : WpA W ta n env fun ds n' => Cc ds fun fs => Φ (.ins C 0 0 fs) n') : Wp W (tMake C (spI W.K C Cc) [] Ex ta) n env Φ := fun σ stk vs H Q w k =>
  q σ stk vs H _ w fun us ds n' H' q' l w' x dx hx hdx hne => by
    have hid := w'.hidH
    obtain ⟨k1, h1, pp, M1, M2, a, nd, b, c⟩ := w'
    obtain ⟨c1, c2⟩ := EnvOk.toL l c
    rw [List.append_nil]
    have hM : ∀ q ∈ W.M0 ++ (M1 ++ M2), H' q ≠ Option.none := fun q hq => by
      rcases List.mem_append.mp hq with z | z
      · exact hid q z
      · exact (a q z).2
    have xM : x ∉ W.M0 ++ (M1 ++ M2) := fun z => hM x z hx
    have s1 : Same H' (upd (upd H' dx (.own x)) x (.ins C dx [])) := (same_new hdx).trans (same_new (by rw [upd_ne (Ne.symm hne)]; exact hx))
    refine ⟨W.M0 ++ (M1 ++ M2), x, dx, us, ds, _, rfl, upd_same, xM, fun q hq => ?_, c1.mono fun b o e => ?_, q', fun H3 fvs fs hΨ kp hp r => ⟨rfl, k (.ref x) (.ins C 0 0 fs) n' H3 hΨ ?_⟩⟩
    · cases e : H' q with
      | none => exact absurd e (hM q hq)
      | some o => rw [s1 _ _ e]; exact fun z => by cases z
    · obtain ⟨e1, e2⟩ := era_some e
      refine era_of (s1 _ _ e1) fun z => ?_
      rcases List.mem_append.mp z with z | z
      · exact e2 z
      · have z : b = x := by simpa using z
        subst z
        rw [hx] at e1; cases e1
    · have s : Same H' H3 := fun b o e => kp b o (by rintro rfl; rw [hx] at e; cases e) (s1 b o e)
      refine ⟨fun b o n q => s _ _ (k1 b o n q), h1, fun q hq => ⟨(pp q hq).1, (pp q hq).2.mono s⟩, M1, M2, fun q hq => ⟨(a q hq).1, fun z => ?_⟩, nd, b.mono (era_mono _ s) s, ⟨_, rfl, .ins (era_of hp xM) (r.mono (era_less fun b hb => List.mem_append_left _ hb))⟩, c2.mono (era_mono _ s) s⟩
      cases r : H' q with
      | none => exact (a q hq).2 r
      | some o => rw [s _ _ r] at z; cases z
theorem Wd.ownI (w : Wd W n env σ stk vs H) (hi : env[i]? = some (.own (.ins C p dx fs))) : ∃ fvs, σ[i]? = some (some (.ref p)) ∧ H p = some (.ins C dx fvs) ∧ fvs.length = fs.length := by
  obtain ⟨p', u, e2, e3, U, e4⟩ := w.ownO hi
  cases e4 with
  | ins r => exact ⟨_, e2, e3, r.len⟩
/-- self.f = e -/
theorem ws_fld (c : Cls W.K C) (na : NoAttr W.K C f) (hl : fs.length < 1000) (hi : env[i]? = some (.own (.ins C p dx fs))) (q : Wp W te n env fun y n1 => O.nx (env.set i (.own (.ins C p dx (putD f y fs)))) n1) :
    WpS W (sFld W.K (tVar i) te f) n env O := fun σ stk vs H De w g =>
  q σ stk vs H _ w fun vy y n1 H1 q1 w1 => by
    obtain ⟨fvs, e1, e2, e3⟩ := w1.pop.ownI hi
    refine ⟨.ref p, e1, p, C, dx, fvs, rfl, e2, c, na, by omega, g.nx _ _ _ n1 q1 (w1.ownPutO hi e1 e2 fun U _ h r => ?_)⟩
    cases h with
    | ins h => exact .ins (h.put r)
/-- self.f, self still being filled -/
theorem wp_fldOwn (c : Cls W.K C) (na : NoAttr W.K C f) (hi : env[i]? = some (.own (.ins C p dx fs))) (hd : fs.lookup f = some d) (q : Φ d n) : Wp W (tFld W.K (tVar i) f) n env Φ := fun σ stk vs H Q w k => by
  obtain ⟨k1, h1, pp, M1, M2, a, nd, b, cc⟩ := w
  obtain ⟨p', Ma, Mb, u, e1, e2, e3, e4, _⟩ := b.owned hi
  cases e4 with
  | ins hr =>
    obtain ⟨u, hu, ru⟩ := hr.lookup hd
    exact ⟨_, e2, p, C, dx, _, u, rfl, e3, c, na, hu, k u d n H q ⟨k1, h1, pp, M1, M2, a, nd, b, ⟨u, rfl, ru⟩, cc⟩⟩
end
end FR
namespace FR
open PySem PySem.Spec PyProof.Rows L2
variable [TheW]
/-! ## x in o by an own __contains__ -/
section
variable {prog : Program} {w : World} {A : Around} {E : Value → Shared → Prop} {s : Shared} {K : PySem.W.Frag} {x C f : Addr} {ox : Obj} {od : Option Obj}
theorem contains_K {v : Value} {Q : Bool → Shared → Prop} (X : K.In s.heap) (I : PySem.W.InstAt s.heap x ox C od) (hs : PySem.W.findIn K (.ref C) "__contains__" = some (some (.ref f))) (hf : PySem.W.isFn K (.ref f) = true)
    (h : wpAny (model prog w) A (call (.ref f) [.ref x, v]) (fun r s' => wpAny (model prog w) A (truthy r) Q E s') E s) : wpAny (model prog w) A (contains (.ref x) v) Q E s := by
  unfold contains
  refine wpAny_holding ?_
  rw [stdlibNamesSay?_ref]
  refine wpAny_bind (wpAny_bind (I.type.here ((PySem.W.looks_findIn X hs).here ?_)))
  show wpAny _ A (if (some (Value.ref f) == some Value.none) = true then _ else _) Q E s
  rw [if_neg (by simp)]
  refine wpAny_bind ?_
  simp only [callSpecialUnlessNone?]
  refine wpAny_bind (wpAny_bind (I.type.here ((PySem.W.looks_findIn X hs).here ?_)))
  refine wpAny_holding (wpAny_bind ((PySem.W.bind_fn X _ (beq_iff_eq.mp hf)).here ?_))
  have e : (Value.ref f == Value.none) = false := by simp
  simp only [e, Bool.false_eq_true, if_false]
  exact wpAny_bind (wpAny_mono h (fun v s' h' => wpAny_pure h') fun _ _ h' => h')
end
def rInO (C : Addr) (sp : Sp) (neg : Bool) : R2 := fun x y H Q => ∃ a dx fs, y = .ref a ∧ H a = some (.ins C dx fs) ∧ sp [.ref a, x] H (fun v H' => ∃ b, v = .bl b ∧ Q (.bl (b != neg)) H') E0
section
variable {X : Cx} {k : Nat} {C : Addr} {ps : List Str} {sp : Sp}
theorem contains_G (h : HasM X.prog X.w X.K X.mg X.base k C "__contains__" ps sp) (gu : X.A.guards = some []) (hr : Room k X.A) {pins : List (Addr × Obj)} {σ : L2.St} {H : Hp} {s : Shared} {a dx : Addr} {fs : List (Str × V)} {vx : V} {u : Value} {Q : Bool → Hp → Prop}
    (I : Inv X pins σ H s) (ha : H a = some (.ins C dx fs)) (rx : RelV vx u) (q : sp [.ref a, vx] H (fun v H' => ∃ b, v = .bl b ∧ Q b H') E0) : wpAny (model X.prog X.w) X.A (contains (.ref a) u) (fun b s' => ∃ H', Inv X pins σ H' s' ∧ Q b H') X.xe s := by
  obtain ⟨f, fd, F, c, hm, hb⟩ := h
  obtain ⟨mA, J, _⟩ := ins_get I.hok ha
  obtain ⟨od, J, _⟩ := J.look
  refine contains_K I.kIn J hm.at_ hm.fn ?_
  refine thn (run_fnG (Q := fun v H' => ∃ b, v = .bl b ∧ Q b H') (us := [.ref a, u]) (vs := [.ref a, vx]) F gu hr hb I (.cons rfl (.cons rx .nil)) (by rw [List.append_nil]; exact q)) fun r s' ⟨v, H', I', rv, b, e, q'⟩ => ?_
  subst e
  cases rv
  exact wpAny_truthy_bool ⟨H', I', q'⟩
theorem k_inO (h : HasM X.prog X.w X.K X.mg X.base k C "__contains__" ps sp) (gu : X.A.guards = some []) (hr : Room k X.A) : OpR X (compareOp .In) (rInO C sp false) := by
  intro pins s σ H x y v u Q I rx ry hq
  obtain ⟨a, dx, fs, rfl, ha, q⟩ := hq
  cases ry
  show wpAny _ _ (contains (.ref a) v >>= fun b => pure (Value.bool b)) _ _ _
  refine wpAny_bind (wpAny_mono (contains_G h gu hr (Q := fun b H' => Q (.bl (b != false)) H') I ha rx q) (fun b s' z => ?_) fun _ _ x => x)
  obtain ⟨H', I', q'⟩ := z
  refine wpAny_pure ⟨.bl b, H', I', rfl, ?_⟩
  simpa using q'
theorem k_ninO (h : HasM X.prog X.w X.K X.mg X.base k C "__contains__" ps sp) (gu : X.A.guards = some []) (hr : Room k X.A) : OpR X (compareOp .NotIn) (rInO C sp true) := by
  intro pins s σ H x y v u Q I rx ry hq
  obtain ⟨a, dx, fs, rfl, ha, q⟩ := hq
  cases ry
  show wpAny _ _ (contains (.ref a) v >>= fun b => pure (Value.bool (!b))) _ _ _
  refine wpAny_bind (wpAny_mono (contains_G h gu hr (Q := fun b H' => Q (.bl (b != true)) H') I ha rx q) (fun b s' z => ?_) fun _ _ x => x)
  obtain ⟨H', I', q'⟩ := z
  refine wpAny_pure ⟨.bl (!b), H', I', rfl, ?_⟩
  cases b <;> exact q'
end
section
variable {W : Wo} {n : Nat} {x : D} {Φ : D → Nat → Prop} {C a dx : Addr} {fs : List (Str × D)}
theorem op_inO {Cc : List D → (D → Prop) → Prop} {neg : Bool} (q : Cc [.ins C a dx fs, x] fun d => ∃ b, d = .bl b ∧ Φ (.bl (b != neg)) n) : Op2 W (rInO C (spD W.K Cc) neg) n x (.ins C a dx fs) Φ := fun env σ stk vs vx vy H Q w k => by
  have t := w.top
  cases t with
  | @ins a0 _ dx0 _ _ _ _ ha hf =>
    refine ⟨a0, dx0, _, rfl, ha, Wd.call (Φ := fun d n' => ∃ b, d = .bl b ∧ Φ (.bl (b != neg)) n') (us := [.ref a0, vx]) (ds := [.ins C a dx fs, x]) (stk := stk) (vs := vs) (n := n) rfl w ?_ ?_⟩
    · exact q
    · rintro v d n' H' ⟨b, rfl, h⟩ w'
      have t := w'.top
      cases t
      exact ⟨b, rfl, k _ _ n' H' h (w'.pop.push fun _ _ => .bl _)⟩
end
end FR
namespace FR
open PySem PySem.Spec PyProof.Rows L2
variable [TheW]
/-! ## facts of the head about a class -/
/-- the i-th statement of a class's body -/
def inCls (st : Stmt) (i : Nat) : Stmt := match st with
  | .ClassDef _ _ _ body _ _ _ _ _ _ _ => body.getD i (.Pass ⟨0, 0, 0, 0⟩)
  | _ => .Pass ⟨0, 0, 0, 0⟩
section
variable {K : PySem.W.Frag} {mg : Str → Option Value} {h : Heap} {m q x : Str} {st : Stmt} {ps : List Str} {C f : Addr} {oc kV dc pm cd ct : Value} {od an : Option Addr} {sl : Array (Option Value)}
theorem cls_in (a : PySem.W.plainGet K C Str.empty = true) (b : PySem.W.hasDictIn K C = true) (c : PySem.W.plainOver K C = true) (d : PySem.W.findIn K (.ref C) "__setattr__" = some (some (.builtin "object.__setattr__"))) : Cls K C := ⟨a, b, c, d⟩
theorem meth_in (c : Cls K C) (a : PySem.W.findIn K (.ref C) m = some (some (.ref f))) (n : PySem.W.isFn K (.ref f) = true) (l : K.lookup f = some ⟨oc, od, .func (PySem.W.fnOf m q (defArgs st) (defBody st) (defScope st) .none kV dc pm an cd ct), sl⟩)
    (cc : PySem.W.codeIn K cd q = true) (k : PySem.W.keepIn K (.ref f) = true) (b : ∀ (kV doc pm : Value) (an : Option Addr) (cdv ct : Value) (us : List Value), us.length = ps.length → bindArgs (PySem.W.fnOf m q (defArgs st) (defBody st) (defScope st) .none kV doc pm an cdv ct) ⟨us, []⟩ = pure (ps.zip us)) : MethIn K C m q st ps :=
  ⟨f, _, fun_mk (st := st) l cc k, c, ⟨a, n, k⟩, (fun_mk (st := st) l cc k).binds b⟩
theorem init_in (X : K.In h) (G : h.Ns mainGlobals mg) (ax : PySem.W.nsIn K mainGlobals x = some (some (.ref C))) (mk : PySem.W.makesIn K C = true) (kC : PySem.W.keepIn K (.ref C) = true) (a : PySem.W.findIn K (.ref C) "__init__" = some (some (.ref f))) (n : PySem.W.isFn K (.ref f) = true) (l : K.lookup f = some ⟨oc, od, .func (PySem.W.fnOf "__init__" q (defArgs st) (defBody st) (defScope st) .none kV dc pm an cd ct), sl⟩)
    (cc : PySem.W.codeIn K cd q = true) (k : PySem.W.keepIn K (.ref f) = true) (b : ∀ (kV doc pm : Value) (an : Option Addr) (cdv ct : Value) (us : List Value), us.length = ps.length → bindArgs (PySem.W.fnOf "__init__" q (defArgs st) (defBody st) (defScope st) .none kV doc pm an cdv ct) ⟨us, []⟩ = pure (ps.zip us)) : InitIn K mg C x q st ps :=
  ⟨f, _, fun_mk (st := st) l cc k, ⟨mk, a, n, kC⟩, PySem.W.mg_of X G ax, (fun_mk (st := st) l cc k).binds b⟩
end
end FR
namespace FR
open PySem PySem.Spec PyProof.Rows L2
variable [TheW]
/-! ## dicts read -/
def keyD : Key → D
  | .inl i => .int i
  | .inr x => .str x
def valD (kvs : List (Key × D)) (k : Key) : Option D := (kvs.find? fun kv => decide (kv.1 = k)).map (·.2)
theorem RpK.val {K : PySem.W.Frag} {U : Hp} {k : Key} : ∀ {vs : List (Key × V)} {ds : List (Key × D)}, RpK K U vs ds → (∀ d, valD ds k = some d → ∃ v, valV vs k = some v ∧ Rp K U v d) ∧ (valV vs k).isSome = (valD ds k).isSome
  | _, _, .nil => ⟨fun d h => by simp [valD] at h, rfl⟩
  | _, _, .cons (k := k') a b => by
    obtain ⟨h1, h2⟩ := RpK.val (k := k) b
    unfold valD valV at *
    by_cases e : k' = k
    · refine ⟨fun d h => ?_, by simp [List.find?_cons, e]⟩
      simp [List.find?_cons, e] at h
      subst h
      exact ⟨_, by simp [List.find?_cons, e], a⟩
    · simp only [List.find?_cons, e, decide_false]
      exact ⟨h1, h2⟩
theorem Rp.key {K : PySem.W.Frag} {U : Hp} {v : V} {k : Key} (h : Rp K U v (keyD k)) : v = kV k := by
  cases k with
  | inl i => cases h; rfl
  | inr x => cases h; rfl
section
variable {W : Wo} {n : Nat} {env stk : List E} {σ : L2.St} {vs : L2.St} {H : Hp} {d x y : D} {v vx vy : V} {Φ : D → Nat → Prop} {td ty tx : TE} {kvs : List (Key × D)} {k : Key}
/-- the dict and the key on the stack, what is found -/
theorem Wd.dget {vd vk : V} (w : Wd W n env σ (.d (keyD k) :: .d (.dct kvs) :: stk) (some vk :: some vd :: vs) H) : ∃ a us, vd = .ref a ∧ vk = kV k ∧ Rd H a (.dK us) ∧ (valV us k).isSome = (valD kvs k).isSome ∧ ∀ d, valD kvs k = some d → ∃ v, valV us k = some v ∧ Wd W n env σ (.d d :: stk) (some v :: vs) H := by
  obtain ⟨k1, h1, pp, M1, M2, a, nd, b, c⟩ := w
  obtain ⟨⟨u, e, rk⟩, ⟨u2, e2, rd⟩, c⟩ := c
  cases e
  cases e2
  cases rd with
  | dct ha hr =>
    obtain ⟨q1, q2⟩ := hr.val (k := k)
    refine ⟨_, _, rfl, rk.key, same_rd (era_sub _ _) ha, q2, fun d hd => ?_⟩
    obtain ⟨v, hv, rv⟩ := q1 d hd
    exact ⟨v, hv, k1, h1, pp, M1, M2, a, nd, b, ⟨v, rfl, rv⟩, c⟩
theorem wp_dget (q : Wp W td n env fun x n1 => ∃ kvs, x = .dct kvs ∧ Wp W ty n1 env fun y n2 => ∃ k d, y = keyD k ∧ valD kvs k = some d ∧ Φ d n2) : Wp W (tDGet td ty) n env Φ := fun σ stk vs H Q w kk =>
  q σ stk vs H _ w fun vd d n1 H1 q1 w1 => by
    obtain ⟨kvs, rfl, q1⟩ := q1
    refine q1 σ _ _ H1 _ w1 fun vk y n2 H2 q2 w2 => ?_
    obtain ⟨k, d, rfl, hd, q2⟩ := q2
    obtain ⟨a, us, rfl, rfl, ha, _, f⟩ := w2.dget
    obtain ⟨v, hv, w3⟩ := f d hd
    exact ⟨a, v, rfl, .inl ⟨us, k, ha, rfl, hv.symm⟩, kk v d n2 H2 q2 w3⟩
theorem wp_din (q : Wp W ty n env fun y n1 => ∃ k, y = keyD k ∧ Wp W td n1 env fun x n2 => ∃ kvs, x = .dct kvs ∧ Φ (.bl (valD kvs k).isSome) n2) : Wp W (tDIn ty td) n env Φ := fun σ stk vs H Q w kk =>
  q σ stk vs H _ w fun vk y n1 H1 q1 w1 => by
    obtain ⟨k, rfl, q1⟩ := q1
    refine q1 σ _ _ H1 _ w1 fun vd x n2 H2 q2 w2 => ?_
    obtain ⟨kvs, rfl, q2⟩ := q2
    have w3 := w2
    obtain ⟨k1, h1, pp, M1, M2, a, nd, b, c⟩ := w2
    obtain ⟨⟨u2, e2, rd⟩, ⟨u, e, rk⟩, c⟩ := c
    cases e
    cases e2
    cases rd with
    | dct ha hr =>
      obtain ⟨_, q3⟩ := hr.val (k := k)
      refine ⟨_, _, rfl, .inl ⟨_, k, same_rd (era_sub _ _) ha, rk.key, rfl⟩, ?_⟩
      rw [q3]
      exact kk _ _ n2 H2 q2 (w3.pop.pop.push fun _ _ => .bl _)
end
end FR
namespace FR
open PySem PySem.Spec PyProof.Rows L2
variable [TheW]
/-! ## dicts that a def fills -/
def putKD (kvs : List (Key × D)) (k : Key) (v : D) : List (Key × D) :=
  if (kvs.any fun kv => decide (kv.1 = k)) = true then kvs.map (fun kv => if kv.1 = k then (kv.1, v) else kv) else kvs ++ [(k, v)]
section
variable {K : PySem.W.Frag} {U : Hp} {k : Key} {v : V} {d : D}
theorem RpK.len : ∀ {vs : List (Key × V)} {ds : List (Key × D)}, RpK K U vs ds → vs.length = ds.length
  | _, _, .nil => rfl
  | _, _, .cons _ b => by rw [List.length_cons, List.length_cons, RpK.len b]
theorem RpK.any : ∀ {vs : List (Key × V)} {ds : List (Key × D)}, RpK K U vs ds → (vs.any fun kv => decide (kv.1 = k)) = ds.any fun kv => decide (kv.1 = k)
  | _, _, .nil => rfl
  | _, _, .cons _ b => by rw [List.any_cons, List.any_cons, RpK.any b]
theorem RpK.app : ∀ {vs us : List (Key × V)} {ds es : List (Key × D)}, RpK K U vs ds → RpK K U us es → RpK K U (vs ++ us) (ds ++ es)
  | _, _, _, _, .nil, h => h
  | _, _, _, _, .cons a b, h => .cons a (RpK.app b h)
theorem RpK.over (h : Rp K U v d) : ∀ {vs : List (Key × V)} {ds : List (Key × D)}, RpK K U vs ds → RpK K U (vs.map fun kv => if kv.1 = k then (kv.1, v) else kv) (ds.map fun kv => if kv.1 = k then (kv.1, d) else kv)
  | _, _, .nil => .nil
  | _, _, .cons (k := k') a b => by
    rw [List.map_cons, List.map_cons]
    by_cases e : k' = k
    · simp only [e, if_true]; exact .cons h (RpK.over h b)
    · simp only [e, if_false]; exact .cons a (RpK.over h b)
theorem RpK.put {vs : List (Key × V)} {ds : List (Key × D)} (r : RpK K U vs ds) (h : Rp K U v d) : RpK K U (putK vs k v) (putKD ds k d) := by
  unfold putK putKD
  rw [r.any (k := k)]
  split
  · exact r.over h
  · exact r.app (.cons h .nil)
end
section
variable {W : Wo} {n : Nat} {env stk : List E} {σ : L2.St} {vs : L2.St} {H : Hp} {d x y : D} {v vx vy : V} {i : Nat} {Φ : D → Nat → Prop} {O : Out} {td ty tx te : TE} {kvs : List (Key × D)} {k : Key}
theorem Wd.ownD (w : Wd W n env σ stk vs H) (hi : env[i]? = some (.own (.dct kvs))) : ∃ p us, σ[i]? = some (some (.ref p)) ∧ H p = some (.dK us) ∧ us.length = kvs.length := by
  obtain ⟨p', u, e2, e3, U, e4⟩ := w.ownO hi
  cases e4 with
  | dct r => exact ⟨_, _, e2, e3, r.len⟩
/-- d = {} -/
theorem ws_ownD (hi : i < env.length) (hno : ∀ zs, env[i]? ≠ some (.own zs)) (q : O.nx (env.set i (.own (.dct []))) n) : WpS W (tAsg tDNewK (gName i)) n env O := fun σ stk vs H De w f p hp =>
  f.nx _ _ _ n q ((w.newOw hp fun _ => .dct .nil).ownSet i hi hno)
/-- d[e] = v, d owned -/
theorem ws_dput (hi : env[i]? = some (.own (.dct kvs))) (hl : kvs.length < sizeLine) (q : Wp W te n env fun y n1 => Wp W ty n1 env fun z n2 => ∃ k, z = keyD k ∧ O.nx (env.set i (.own (.dct (putKD kvs k y)))) n2) : WpS W (sDPut (tVar i) ty te) n env O := fun σ stk vs H De w f =>
  q σ stk vs H _ w fun vy y n1 H1 q1 w1 => by
    obtain ⟨p, us, e1, e2, e3⟩ := w1.pop.ownD hi
    refine ⟨.ref p, e1, q1 σ _ _ H1 _ w1 fun vz z n2 H2 q2 w2 => ?_⟩
    obtain ⟨k, rfl, qn⟩ := q2
    have hz := w2.top.key
    subst hz
    obtain ⟨p', us', f1, f2, f3⟩ := w2.pop.pop.ownD hi
    rw [e1] at f1
    cases f1
    exact ⟨p, _, rfl, .inl ⟨us', k, f2, rfl, by omega, rfl⟩, f.nx _ _ _ n2 qn (w2.pop.ownPutO hi e1 f2 fun U _ h r => by cases h with | dct h => exact .dct (h.put r))⟩
end
end FR
namespace FR
open PySem PySem.Spec PyProof.Rows L2
variable [TheW]
/-! ## dict(list of pairs) -/
def pairD (kv : Key × D) : D := .tup [keyD kv.1, kv.2]
def mergeKD (kvs more : List (Key × D)) : List (Key × D) := more.foldl (fun acc kv => putKD acc kv.1 kv.2) kvs
section
variable {K : PySem.W.Frag} {U : Hp}
theorem RpL.pairs : ∀ {vs : List V} {kvs : List (Key × D)}, RpL K U vs (kvs.map pairD) → ∃ (ps : List Addr) (us : List (Key × V)), vs = ps.map V.ref ∧ Paired (fun p kv => PT U p [kV kv.1, kv.2]) ps us ∧ RpK K U us kvs
  | _, [], .nil => ⟨[], [], rfl, .nil, .nil⟩
  | _, (k, d) :: kvs, .cons a b => by
    obtain ⟨ps, us, rfl, h1, h2⟩ := RpL.pairs b
    cases a with
    | @tup p zs _ h3 h4 =>
      cases h4 with
      | cons r1 r2 =>
        cases r2 with
        | cons r2 r3 =>
          cases r3
          have e := r1.key
          subst e
          exact ⟨p :: ps, (k, _) :: us, rfl, .cons h3 h1, .cons r2 h2⟩
theorem RpK.merge : ∀ {us vs : List (Key × V)} {ds es : List (Key × D)}, RpK K U vs ds → RpK K U us es → RpK K U (mergeK vs us) (mergeKD ds es)
  | _, _, _, _, h, .nil => h
  | (k, v) :: us, vs, ds, (_, d) :: es, h, .cons a b => by
    have := RpK.merge (us := us) (vs := putK vs k v) (ds := putKD ds k d) (es := es) (h.put a) b
    exact this
end
def rDictP (K : PySem.W.Frag) : List V → Hp → VK → Prop := fun xs H Q => ∃ (a : Addr) (ps : List Addr) (kvs : List (Key × V)), xs = [.ref a] ∧ SqL K H a (ps.map V.ref) ∧ Paired (fun p kv => SqT K H p [kV kv.1, kv.2]) ps kvs ∧
    ∀ p, H p = none → Q (.ref p) (upd H p (.dK (mergeK [] kvs)))
theorem k_dictP {X : Cx} {K : PySem.W.Frag} (h : X.K = K) (hc : X.calm = true) : CallR X (.type "dict") (rDictP K) := h ▸ call_dictP hc
theorem pairedImp {α β : Type} {R S : α → β → Prop} (f : ∀ a b, R a b → S a b) : ∀ {xs : List α} {ys : List β}, Paired R xs ys → Paired S xs ys
  | _, _, .nil => .nil
  | _, _, .cons a b => .cons (f _ _ a) (pairedImp f b)
section
variable {W : Wo} {n : Nat} {env stk : List E} {σ : L2.St} {vs : L2.St} {H : Hp} {d x y : D} {v vx vy : V} {i : Nat} {Φ : D → Nat → Prop} {O : Out} {ta : TA} {kvs : List (Key × D)} {k : Key}
theorem op_dictP (q : Φ (.dct (mergeKD [] kvs)) n) : OpN W (rDictP W.K) n [.lst (kvs.map pairD)] Φ :=
  opN1 fun env σ stk vs vx H Q w kk => by
    obtain ⟨U, s, h1, f, g⟩ := w.view1
    cases h1 with
    | lst a b =>
      obtain ⟨ps, us, rfl, h2, h3⟩ := b.pairs
      refine ⟨_, ps, us, rfl, .inl (.inl (s _ _ a)), pairedImp (fun p kv z => same_sqT s z) h2, fun p hp => ?_⟩
      obtain ⟨U', s', e, g⟩ := g p (.dK _) hp
      exact kk _ _ n _ q (g _ _ (.dct (.inl e) ((RpK.merge .nil h3).mono s')))
end
end FR
namespace FR
open PySem PySem.Spec PyProof.Rows L2
variable [TheW]
section
variable {W : Wo} {n : Nat} {env stk : List E} {σ : L2.St} {vs : L2.St} {H : Hp} {d x y : D} {v vx vy : V} {i : Nat} {Φ : D → Nat → Prop} {O : Out} {ta : TA} {kvs : List (Key × D)} {k : Key}
/-- what is on top seen, and a new owned thing made of it -/
theorem Wd.ownFrom (w : Wd W n env σ (.d x :: stk) (some v :: vs) H) : ∃ U, Same U H ∧ Rp W.K U v x ∧ ∀ p o y, H p = Option.none → OwR W.K U p o y → Wd W n env σ (.own y :: stk) (some (.ref p) :: vs) (upd H p o) := by
  have w2 := w
  obtain ⟨k, h, pp, M1, M2, a, nd, b, c⟩ := w
  obtain ⟨⟨u, eu, ru⟩, c⟩ := c
  cases eu
  refine ⟨_, era_sub _ _, ru, fun p o y hp ho => ?_⟩
  have w3 := w2.mono (same_new (o := o) hp)
  have e : Same H (upd H p o) := same_new hp
  have np : p ∉ M1 ++ M2 := fun z => (a p z).2 hp
  have np0 : W.H0 p = Option.none := by
    cases q : W.H0 p with
    | none => rfl
    | some o =>
      by_cases z : W.P = some p
      · exact absurd hp ((pp p z).2.there)
      · rw [k p o z q] at hp; cases hp
  have e2 : Same (era H (W.M0 ++ (M1 ++ M2))) (era (upd H p o) (W.M0 ++ (M1 ++ p :: M2))) := fun b o hb => by
    obtain ⟨h1, h2⟩ := era_some hb
    refine era_of (e _ _ h1) fun z => h2 ?_
    have nb : b ≠ p := ne_of_none h1 hp
    simp only [List.mem_append, List.mem_cons] at z ⊢
    rcases z with z | z | z | z
    · exact .inl z
    · exact .inr (.inl z)
    · exact absurd z nb
    · exact .inr (.inr z)
  refine ⟨w3.keep, h, w3.pot, M1, p :: M2, fun q hq => ?_, ?_, b.mono e2 e, ⟨_, rfl, upd_same, ho.mono e2⟩, c.mono e2 e⟩
  · by_cases z : q = p
    · subst z; exact ⟨np0, by rw [upd_same]; exact fun z => by cases z⟩
    · rw [upd_ne z]
      refine a q ?_
      simp only [List.mem_append, List.mem_cons] at hq ⊢
      rcases hq with hq | hq | hq
      · exact .inl hq
      · exact absurd hq z
      · exact .inr hq
  · refine (List.perm_middle.nodup_iff).mpr ?_
    exact List.nodup_cons.mpr ⟨np, nd⟩
/-- d = dict(list of pairs), d to be filled on -/
theorem ws_ownDict (hi : i < env.length) (hno : ∀ zs, env[i]? ≠ some (.own zs)) (q : WpA W ta n env fun ds n1 => ∃ kvs : List (Key × D), ds = [.lst (kvs.map pairD)] ∧ O.nx (env.set i (.own (.dct (mergeKD [] kvs)))) n1) : WpS W (tAsg (tCB (rDictP W.K) ta) (gName i)) n env O := fun σ stk vs H De w f =>
  q σ stk vs H _ w fun us ds n1 H1 q1 l w1 => by
    obtain ⟨kvs, rfl, qn⟩ := q1
    match us, l with
    | [u], _ =>
      have w2 : Wd W n1 env σ (.d (.lst (kvs.map pairD)) :: stk) (some u :: vs) H1 := w1
      obtain ⟨U, s, r, g⟩ := w2.ownFrom
      cases r with
      | lst a b =>
        obtain ⟨ps, zs, rfl, h2, h3⟩ := b.pairs
        exact ⟨_, ps, zs, rfl, .inl (.inl (s _ _ a)), pairedImp (fun p kv z => same_sqT s z) h2, fun p hp => f.nx _ _ _ n1 qn ((g p _ _ hp (.dct (RpK.merge .nil h3))).ownSet i hi hno)⟩
/-- x = [..]: a new list of data, to be filled on -/
theorem ws_ownLst (hi : i < env.length) (hno : ∀ zs, env[i]? ≠ some (.own zs)) (q : Wp W te n env fun d n1 => ∃ xs, d = .lst xs ∧ O.nx (env.set i (.d d)) n1) : WpS W (tAsg te (gName i)) n env O := ws_asg (L := [i]) (q.mono fun d m h => by
  obtain ⟨xs, rfl, h⟩ := h
  exact wg_name h)
end
end FR
namespace FR
open PySem PySem.Spec PyProof.Rows L2
variable [TheW]
/-! ## readings that make a new thing, still one's own -/
def WpF (W : Wo) (te : TE) (n : Nat) (env : List E) (Φ : D → Nat → Prop) : Prop := ∀ (σ : L2.St) (stk : List E) (vs : L2.St) (H : Hp) (Q : VK), Wd W n env σ stk vs H →
  (∀ p d n' H', Φ d n' → Wd W n' env σ (.own d :: stk) (some (.ref p) :: vs) H' → Q (.ref p) H') → te σ H Q
section
variable {W : Wo} {n m : Nat} {env stk : List E} {σ : L2.St} {ds : List D} {vs : L2.St} {us : List V} {H H' : Hp} {d x y : D} {v vx vy : V} {i : Nat} {O : Out} {te : TE} {tt : TT} {t u : TS} {g : TG} {gs : TGs} {L L' : List Nat} {Ψ : List E → Nat → Prop}
theorem WpF.wp {Φ : D → Nat → Prop} (h : WpF W te n env Φ) : Wp W te n env Φ := fun σ stk vs H Q w k => h σ stk vs H Q w fun p d n' H' q w' => k _ d n' H' q w'.freeze
theorem WpF.mono {Φ Ψ : D → Nat → Prop} (h : WpF W te n env Φ) (f : ∀ d m, Φ d m → Ψ d m) : WpF W te n env Ψ := fun σ stk vs H Q w k => h σ stk vs H Q w fun p d n' H' q w' => k p d n' H' (f _ _ q) w'
/-- i = e, what e makes being one's own -/
theorem ws_setF {i : Nat} {O : Out} (hi : i < env.length) (hno : ∀ zs, env[i]? ≠ some (.own zs)) (q : WpF W te n env fun d n' => O.nx (env.set i (.own d)) n') : WpS W (tAsg te (gName i)) n env O := fun σ stk vs H De w f =>
  q σ stk vs H _ w fun p d n' H' q' w' => f.nx _ _ _ n' q' (w'.ownSet i hi hno)
theorem Wd.cutUnder {x : D} {ds : List D} {us : List V} {v : V} {σ : L2.St} {stk : List E} {vs : L2.St} {H : Hp} (l : us.length = ds.length) (w : Wd W n env σ (.own x :: (ds.map E.d ++ stk)) (some v :: (us.map some ++ vs)) H) : Wd W n env σ (.own x :: stk) (some v :: vs) H := by
  obtain ⟨k, h, pp, M1, M2, a, nd, b, c⟩ := w
  cases M2 with
  | nil => exact c.elim
  | cons p M2 => exact ⟨k, h, pp, M1, p :: M2, a, nd, b, c.1, (EnvOk.toL l c.2).2⟩
theorem wf_lc {wi : TI} {sl : List Nat} {Φ : D → Nat → Prop} (hL : ∀ i ∈ L, i ∈ sl) (q : WpI W wi n env fun ds n1 => ∃ I : Nat → List D → Nat → Prop, I 0 [] n1 ∧ ds.length ≤ sizeLine ∧
      (∀ i d acc m, ds[i]? = some d → I i acc m → WpG W g L d m (wipeE (env.map hideE) sl) fun env2 m2 => WpT W tt m2 env2 fun b m3 => if b = true then Wp W te m3 env2 (fun y m4 => I (i + 1) (acc ++ [y]) m4) else I (i + 1) acc m3) ∧
      ∀ acc m, I ds.length acc m → acc.length ≤ ds.length → Φ (.lst acc) m) : WpF W (tLc wi g tt te sl) n env Φ := fun σ stk vs H Q w k =>
  q σ stk vs H _ w fun J ds n1 H1 stk2 vs2 q1 l2 w1 hJ => by
    obtain ⟨I, i0, hsz, it, ie⟩ := q1
    intro Da hDa
    obtain ⟨G, Y, hw, hG, hY⟩ := hJ.ex
    have wn := w1.newOwn hDa
    refine lc_it (J := J) (n := ds.length) hw (fun i H => ∃ acc m, I i acc m ∧ acc.length ≤ i ∧ Wd W m env σ (.own (.lst acc) :: (stk2.map E.d ++ stk)) (some (.ref Da) :: (vs2.map some ++ vs)) H) ⟨[], n1, i0, Nat.le_refl _, wn⟩ ?_ ?_ ?_
    · rintro i H' hi ⟨acc, m, hI, hl, w'⟩
      exact hG H' (w'.popOwn.sees l2) w'.keep
    · rintro i x H' H2 hi ⟨acc, m, hI, hl, w'⟩ y
      obtain ⟨d, e1, s, r⟩ := hY i H' x H2 hi (w'.popOwn.sees l2) w'.keep y
      have w2 : Wd W m env σ (.d d :: (.own (.lst acc) :: (stk2.map E.d ++ stk))) (some x :: (some (.ref Da) :: (vs2.map some ++ vs))) H2 := by
        have hid := w'.hidH
        obtain ⟨k1, h1, pp, M1, M2, a, nd, b, c⟩ := w'
        cases M2 with
        | nil => exact c.elim
        | cons p M2 =>
          have rl := (EnvOk.toL l2 c.2).1
          refine ⟨fun b o n q => s _ _ (k1 b o n q), h1, fun q hq => ⟨(pp q hq).1, (pp q hq).2.mono s⟩, M1, p :: M2, fun q hq => ⟨(a q hq).1, fun z => ?_⟩, nd, b.mono (era_mono _ s) s, ⟨x, rfl, ?_⟩, EnvOk.mono (env := .own (.lst acc) :: (stk2.map E.d ++ stk)) (σ := some (.ref Da) :: (vs2.map some ++ vs)) (era_mono _ s) s c⟩
          · cases rr : H' q with
            | none => exact (a q hq).2 rr
            | some o => rw [s _ _ rr] at z; cases z
          · refine r _ (fun p hp => ?_) rl
            rcases List.mem_append.mp hp with z | z
            · exact hid p z
            · exact (a p z).2
      have lenv := w2.envLen
      have w3 := w2.save sl
      refine it i d acc m e1 hI (L2.wipe σ sl) _ _ x H2 _ w3 fun σ3 env3 m3 H3 s3 q3 w4 => ⟨(s3 sl hL).trans wipe_twice, ?_⟩
      refine q3 σ3 _ _ H3 _ w4 fun b m4 H4 q4 w5 => ?_
      cases b with
      | false => exact ⟨acc, m4, q4, by omega, w5.back0 lenv⟩
      | true =>
        refine q4 σ3 _ _ H4 _ w5 fun vy y m5 H5 q5 w6 => ?_
        obtain ⟨ws, h5, l5, w7⟩ := (w6.back lenv).append
        refine ⟨ws, h5, by omega, acc ++ [y], m5, q5, by simp; omega, w7⟩
    · rintro H' ⟨acc, m, hI, hl, w'⟩
      exact k _ _ m H' (ie acc m hI hl) (w'.cutUnder l2)
end
end FR
namespace FR
open PySem PySem.Spec PyProof.Rows L2
variable [TheW]
section
variable {W : Wo} {n : Nat} {env stk : List E} {σ : L2.St} {vs : L2.St} {us : List V} {ds : List D} {H : Hp} {d x y : D} {v vx vy : V} {i : Nat} {Φ : D → Nat → Prop} {O : Out} {ta : TA} {te : TE} {kvs : List (Key × D)} {k : Key}
/-- what is on top seen, and a new owned thing made of it -/
theorem Wd.ownFromL (l : us.length = ds.length) (w : Wd W n env σ (ds.map E.d ++ stk) (us.map some ++ vs) H) : ∃ U, Same U H ∧ RpL W.K U us ds ∧ ∀ p o y, H p = Option.none → OwR W.K U p o y → Wd W n env σ (.own y :: stk) (some (.ref p) :: vs) (upd H p o) := by
  have w2 := w
  obtain ⟨k, h, pp, M1, M2, a, nd, b, c⟩ := w
  obtain ⟨ru, c⟩ := EnvOk.toL l c
  refine ⟨_, era_sub _ _, ru, fun p o y hp ho => ?_⟩
  have w3 := w2.mono (same_new (o := o) hp)
  have e : Same H (upd H p o) := same_new hp
  have np : p ∉ M1 ++ M2 := fun z => (a p z).2 hp
  have np0 : W.H0 p = Option.none := by
    cases q : W.H0 p with
    | none => rfl
    | some o =>
      by_cases z : W.P = some p
      · exact absurd hp ((pp p z).2.there)
      · rw [k p o z q] at hp; cases hp
  have e2 : Same (era H (W.M0 ++ (M1 ++ M2))) (era (upd H p o) (W.M0 ++ (M1 ++ p :: M2))) := fun b o hb => by
    obtain ⟨h1, h2⟩ := era_some hb
    refine era_of (e _ _ h1) fun z => h2 ?_
    have nb : b ≠ p := ne_of_none h1 hp
    simp only [List.mem_append, List.mem_cons] at z ⊢
    rcases z with z | z | z | z
    · exact .inl z
    · exact .inr (.inl z)
    · exact absurd z nb
    · exact .inr (.inr z)
  refine ⟨w3.keep, h, w3.pot, M1, p :: M2, fun q hq => ?_, ?_, b.mono e2 e, ⟨_, rfl, upd_same, ho.mono e2⟩, c.mono e2 e⟩
  · by_cases z : q = p
    · subst z; exact ⟨np0, by rw [upd_same]; exact fun z => by cases z⟩
    · rw [upd_ne z]
      refine a q ?_
      simp only [List.mem_append, List.mem_cons] at hq ⊢
      rcases hq with hq | hq | hq
      · exact .inl hq
      · exact absurd hq z
      · exact .inr hq
  · refine (List.perm_middle.nodup_iff).mpr ?_
    exact List.nodup_cons.mpr ⟨np, nd⟩
/-- [e, ..] -/
theorem wf_lst (q : WpA W ta n env fun ds n' => ds.length ≤ sizeLine ∧ Φ (.lst ds) n') : WpF W (tLst ta) n env Φ := fun σ stk vs H Q w k =>
  q σ stk vs H _ w fun us ds n' H' q' l w' => ⟨by rw [l]; exact q'.1, fun p hp => by
    obtain ⟨U, s, r, g⟩ := w'.ownFromL l
    exact k p _ n' _ q'.2 (g p _ _ hp (.lst r))⟩
/-- list(a tuple) -/
theorem wf_listT (q : WpA W ta n env fun ds n' => ∃ xs, ds = [.tup xs] ∧ Φ (.lst xs) n') : WpF W (tCB (fun xs H Q => ∃ p ys, xs = [.ref p] ∧ (SqL W.K H p ys ∨ SqT W.K H p ys) ∧ ∀ l, H l = Option.none → Q (.ref l) (upd H l (.lst ys))) ta) n env Φ := fun σ stk vs H Q w k =>
  q σ stk vs H _ w fun us ds n' H' q' l w' => by
    obtain ⟨xs, rfl, q'⟩ := q'
    obtain ⟨U, s, r, g⟩ := w'.ownFromL l
    cases r with
    | cons r1 r2 =>
      cases r2
      cases r1 with
      | tup h1 h2 => exact ⟨_, _, rfl, .inr (same_sqT s h1), fun p hp => k p _ n' _ q' (g p _ _ hp (.lst h2))⟩
end
end FR
namespace FR
open PySem PySem.Spec PyProof.Rows L2
variable [TheW]
section
variable {W : Wo} {n : Nat} {env stk : List E} {σ : L2.St} {vs : L2.St} {H : Hp} {i : Nat} {O : Out} {te : TE} {xs : List D}
/-- xs.extend(e), xs owned -/
theorem ws_extend (hi : env[i]? = some (.own (.lst xs))) (q : Wp W te n env fun y n' => ∃ zs, y = .lst zs ∧ xs.length + zs.length ≤ sizeLine ∧ O.nx (env.set i (.own (.lst (xs ++ zs)))) n') : WpS W (tDrop (tBM W.K "list" rExtend (tVar i) (tCons te tNil))) n env O := fun σ stk vs H De w f => by
  obtain ⟨p, ws, e1, e2, e3⟩ := w.ownAt hi
  refine ⟨.ref p, e1, .inl ⟨rfl, _, .inl (.inl e2)⟩, q σ stk vs H _ w fun vy y n' H' q' w' => ?_⟩
  obtain ⟨zs, rfl, hl, q'⟩ := q'
  obtain ⟨p', ws', e1', e2', e3'⟩ := w'.pop.ownAt hi
  rw [e1] at e1'; cases e1'
  have t := w'.top
  cases t with
  | @lst b zv _ hb hr =>
    refine ⟨p, b, ws', zv, rfl, rfl, e2', hb, by rw [e3', hr.len]; exact hl, f.nx _ _ _ n' q' (w'.ownPutO hi e1 e2' fun U s h r => ?_)⟩
    cases h with
    | lst h =>
      cases r with
      | lst hb2 hr2 =>
        have e := s _ _ hb2
        rw [hb] at e
        cases e
        exact .lst (h.app hr2)
end
end FR
namespace FR
open PySem PySem.Spec PyProof.Rows L2
variable [TheW]
section
variable {W : Wo} {n : Nat} {env : List E} {O : Out} {tc : TT} {tb : TS}
/-- while: J, the invariant with its measure -/
theorem ws_while (J : Nat → List E → Nat → Prop) (h0 : ∃ m, J m env n)
    (turn : ∀ m env' n', J m env' n' → WpT W tc n' env' fun b n2 => if b = true then WpS W tb n2 env' { nx := fun e k => ∃ m', m' < m ∧ J m' e k, ct := fun e k => ∃ m', m' < m ∧ J m' e k, bk := O.nx, rt := O.rt } else O.nx env' n2) :
    WpS W (tWhile tc tb) n env O := fun σ stk vs H De w f => by
  obtain ⟨m0, j0⟩ := h0
  refine ⟨fun m σ' H' => ∃ env' n', J m env' n' ∧ Wd W n' env' σ' stk vs H', ⟨m0, env, n, j0, w⟩, ?_⟩
  rintro m σ' H' ⟨env', n', hj, w'⟩
  refine turn m env' n' hj σ' stk vs H' _ w' fun b n2 H2 q2 w2 => ?_
  cases b with
  | true =>
    refine ⟨fun σ3 H3 => ∃ m', m' < m ∧ ∃ env3 n3, J m' env3 n3 ∧ Wd W n3 env3 σ3 stk vs H3, fun σ3 H3 h => h, ?_⟩
    refine q2 σ' stk vs H2 _ w2 ⟨?_, f.rt, f.nx, ?_⟩
    · rintro σ4 H4 env4 n4 ⟨m', hm, hj4⟩ w4
      exact ⟨m', hm, env4, n4, hj4, w4⟩
    · rintro σ4 H4 env4 n4 ⟨m', hm, hj4⟩ w4
      exact ⟨m', hm, env4, n4, hj4, w4⟩
  | false => exact f.nx σ' H2 env' n2 q2 w2
end
end FR
namespace FR
open PySem PySem.Spec PyProof.Rows L2
variable [TheW]
/-! ## o.m(k = e): a method of one parameter called by its name -/
def HasMk (P : Program) (w : World) (K : PySem.W.Frag) (mg : Str → Option Value) (base : Heap) (k : Nat) (C : Addr) (m kw : Str) (ps : List Str) (sp : Sp) : Prop :=
  ∃ f fd, FnG P w K mg base k f fd ps sp ∧ Cls K C ∧ Meth K C m f ∧ ∀ (s : Shared) (a b : Value), K.In s.heap → BindsTo s fd ⟨[a], [(kw, b)]⟩ (ps.zip [a, b])
section
variable {X : Cx} {k : Nat} {C : Addr} {ps : List Str} {sp : Sp} {m kw : Str} {pos apos kpos : Pos} {o e : Expr} {te ta : TE}
theorem pe_hasMk {pl : Sem Bool} (h : HasMk X.prog X.w X.K X.mg X.base k C m kw ps sp) (gu : X.A.guards = some []) (hr : Room k X.A) (he : PE X o ta) (ha : PE X e te) (hps : ps.length = 2 := by rfl)
    (hall : (backToKw pos (keywordEach [⟨some kw, e, kpos⟩] X.env)).all (·.1.isSome) = true := by rfl) (hks : (backToKw pos (keywordEach [⟨some kw, e, kpos⟩] X.env)).filterMap (·.1) = [kw] := by rfl)
    (hpl : ((backTo pos (starEach [] X.env)).any (·.1) || (backToKw pos (keywordEach [⟨some kw, e, kpos⟩] X.env)).any (·.1.isNone)) = false := by rfl)
    (ht : eval (.Call (.Attribute o m apos) [] [⟨some kw, e, kpos⟩] pos) X.env = (do
      let ov ← eval o X.env
      standAt apos.atName
      let (f, first) ← holding [ov] (getMethod ov m pl)
      callWith pos f first (backTo pos (starEach [] X.env)) (backToKw pos (keywordEach [⟨some kw, e, kpos⟩] X.env))) := by rfl) :
    PE X (.Call (.Attribute o m apos) [] [⟨some kw, e, kpos⟩] pos) (tMeth C m sp [] E0 ta (tCons te tNil)) := by
  obtain ⟨f, fd, F, c, hm, hb⟩ := h
  refine ⟨fun pins s σ H Q I h => ?_⟩
  refine PySem.W.methodCall_KW (pl := pl) (thn (he.run pins s σ H _ I h) fun u s1 ⟨x, H1, I1, rx, a, dx, fs, ex, ea, l, q⟩ => ?_) ht
  subst ex
  obtain rfl : u = Value.ref a := rx
  refine getmeth_ok I1 ea c hm l ?_
  refine PySem.W.callWith_KW0 (first := [.ref a]) (h₀ := X.base) I.ok.mod.kin hm.kp hall (thn ((pk_cons (nm := some kw) (kpos := kpos) ha pk_nil).run pos pins s1 σ H1 _ I1 q) fun us s2 ⟨vs, H2, I2, r, q2⟩ => ⟨I2.kIn, ?_⟩) hpl
  rw [hks]
  have hv := F.len _ _ _ _ q2
  rw [hps, List.append_nil] at hv
  cases r with
  | nil => simp at hv
  | cons r1 r2 =>
    cases r2 with
    | cons _ _ => simp at hv
    | nil =>

      refine wpAny_call (codeAny_mono (F.run X.A X.stack s2 H2 ⟨[.ref a], [(kw, _)]⟩ [.ref a, _] [.ref a, _] Q E0 gu hr I2.env0 (hb s2 _ _ I2.kIn) (.cons rfl (.cons r1 .nil)) q2) fun rr s3 hq => ?_)
      cases rr with
      | error e => exact hq.elim
      | ok fl =>
        cases fl with
        | ret u => exact I2.after hq
        | next => exact hq.elim
        | brk => exact hq.elim
        | cont => exact hq.elim
end
end FR
namespace FR
open PySem PySem.Spec PyProof.Rows L2
variable [TheW]
/-! ## sets whose table can be walked, over any kind of keys -/
section
variable {P : Program} {w : World} {κ : Type} [DecidableEq κ] (knd : KeyKind P w κ)
/-- the set at a has just the keys ks, each once -/
def SetW (h : Heap) (a : Addr) (ks : List κ) : Prop :=
  ∃ o es ep t, h.get? a = some o ∧ o.ExactSet ∧ o.data = .set es ep t ∧ ElemsOf knd es.toList ∧ (∃ l : List (Int × Value), l.Perm es.toList ∧ Paired (fun e k => knd.is k e.2 = true) l ks) ∧ ks.Nodup ∧
    es.size < scanBound ∧ t.fits es.size = true ∧ Ris t.place.toList ∧ (w.params.followText "set-order" = true ∨ t.led = true)
variable {knd} {A : Around} {E : Value → Shared → Prop} {s : Shared} {a : Addr}
theorem ElemsOf.perm {l l' : List (Int × Value)} (h : ElemsOf knd l) (p : l'.Perm l) : ElemsOf knd l' := fun e he => h e (p.mem_iff.mp he)
/-- the table stored, laid out anew if it is too full -/
theorem setW_tail {g : Bool → Sem Unit} (hg : ∀ (b : Bool) (s₁ : Shared) (Q' : Unit → Shared → Prop), Q' () s₁ → wpAny (model P w) A (g b) Q' E s₁)
    {o : Obj} {es : Array (Int × Value)} {ep : Nat} {t : SetTable} (ho : s.heap.get? a = some o) (hex : o.ExactSet) (hd : o.data = .set es ep t)
    {es1 : Array (Int × Value)} {t2 : SetTable} {ks : List κ} (el : ElemsOf knd es1.toList) (pr : ∃ l : List (Int × Value), l.Perm es1.toList ∧ Paired (fun e k => knd.is k e.2 = true) l ks) (nd : ks.Nodup)
    (hb1 : es1.size < scanBound) (hf2 : t2.fits es1.size = true) (hr : Ris t2.place.toList) (hl : w.params.followText "set-order" = true ∨ t2.led = true) {wasDummy : Bool} {R : Option Bool → Shared → Prop}
    (hR : ∀ h', Heap.SameBut a s.heap h' → SetW knd h' a ks → R (some true) { s with heap := h' }) :
    wpAny (model P w) A (do
        storeSet a es1 t2
        if (!wasDummy && t2.tooFull) = true then do
            g (relayAll t2 es1 (SetTable.grown es1.size)).2.2
            storeSet a (relayAll t2 es1 (SetTable.grown es1.size)).1 (relayAll t2 es1 (SetTable.grown es1.size)).2.1
            pure (some true)
          else pure (some true)) R E s := by
  refine wpAny_bind (wpAny_storeSet_of ho hd ?_ (fits_of_scanBound hb1))
  have ho1 := store_at (es' := es1) (t' := t2) ho hd
  have sb1 := Heap.SameBut.update s.heap a (Obj.putSet es1 t2)
  split
  · have pm := relayAll_perm t2 es1 (SetTable.grown es1.size)
    have hf3 := relayAll_fits t2 es1 (SetTable.grown es1.size)
    have hr3 := relayAll_ris t2 es1 (SetTable.grown es1.size)
    have hl3 := relayAll_led t2 es1 (SetTable.grown es1.size)
    have hb2 : (relayAll t2 es1 (SetTable.grown es1.size)).1.size < scanBound := by
      rw [← Array.length_toList, pm.length_eq, Array.length_toList]; exact hb1
    refine wpAny_bind (hg _ _ _ ?_)
    refine wpAny_bind (wpAny_storeSet_of ho1 rfl ?_ (fits_of_scanBound hb2))
    obtain ⟨l, pl, hp⟩ := pr
    exact wpAny_pure (hR _ (sb1.trans (Heap.SameBut.update _ a _)) ⟨_, _, _, _, store_at ho1 rfl, hex, rfl, el.perm pm, ⟨l, pl.trans pm.symm, hp⟩, nd, hb2, hf3, hr3, hl.imp id fun z => by rw [hl3]; exact z⟩)
  · exact wpAny_pure (hR _ sb1 ⟨_, es1, _, t2, ho1, hex, rfl, el, pr, nd, hb1, hf2, hr, hl⟩)
theorem paired_mem {R : Int × Value → κ → Prop} {k : κ} : ∀ {l : List (Int × Value)} {ks : List κ}, Paired R l ks → k ∈ ks → ∃ e ∈ l, R e k
  | _, _, .nil, h => by cases h
  | _, _, .cons a b, h => by
    rcases List.mem_cons.mp h with rfl | h
    · exact ⟨_, List.mem_cons_self, a⟩
    · obtain ⟨e, he, r⟩ := paired_mem b h
      exact ⟨e, List.mem_cons_of_mem _ he, r⟩
theorem paired_mem2 {R : Int × Value → κ → Prop} {e : Int × Value} : ∀ {l : List (Int × Value)} {ks : List κ}, Paired R l ks → e ∈ l → ∃ k ∈ ks, R e k
  | _, _, .nil, h => by cases h
  | _, _, .cons a b, h => by
    rcases List.mem_cons.mp h with rfl | h
    · exact ⟨_, List.mem_cons_self, a⟩
    · obtain ⟨k, hk, r⟩ := paired_mem2 b h
      exact ⟨k, List.mem_cons_of_mem _ hk, r⟩
theorem paired_len {R : Int × Value → κ → Prop} : ∀ {l : List (Int × Value)} {ks : List κ}, Paired R l ks → l.length = ks.length
  | _, _, .nil => rfl
  | _, _, .cons _ b => by rw [List.length_cons, List.length_cons, paired_len b]
theorem setW_add {ks : List κ} {k : κ} {x : Value} {Q : Bool → Shared → Prop} (hkey : knd.is k x = true) (hsc : x.scannable = true) (S : SetW knd s.heap a ks) (room : ks.length + 1 < scanBound)
    (hQ : ∀ h' b, Heap.SameBut a s.heap h' → SetW knd h' a (if k ∈ ks then ks else k :: ks) → Q b { s with heap := h' }) :
    wpAny (model P w) A (setAddHashed a x (knd.hash k)) Q E s := by
  obtain ⟨o, es, ep, t, ho, hex, hd, hel, ⟨l, pl, hp⟩, nd, hb, hf, hr, hl⟩ := S
  have hlen : es.size = ks.length := by rw [← paired_len hp, pl.length_eq, Array.length_toList]
  unfold setAddHashed setAddHashedIn
  refine wpAny_holding (wpAny_bind (wpAny_setState_of ho hd hf ?_))
  dsimp only
  rw [byScan_of hsc hb hel]
  simp only [↓reduceIte]
  unfold setAddByScan
  refine wpAny_bind ?_
  refine wpAny_bind (wpAny_rule ?_)
  refine wpAny_bind (wpAny_setScan_of hkey ho hd hf hel ?_)
  cases hfi : List.findIdx? (fun e => knd.is k e.2) es.toList with
  | some j =>
    dsimp only
    obtain ⟨hj, pj, _⟩ := List.findIdx?_eq_some_iff_getElem.mp hfi
    have hk : k ∈ ks := by
      obtain ⟨k', hk', r⟩ := paired_mem2 hp (pl.mem_iff.mpr (List.getElem_mem hj))
      rw [knd.inj _ _ _ pj r]; exact hk'
    refine wpAny_pure (wpAny_pure ?_)
    exact hQ s.heap _ (Heap.SameBut.refl a s.heap) (by rw [if_pos hk]; exact ⟨o, es, ep, t, ho, hex, hd, hel, ⟨l, pl, hp⟩, nd, hb, hf, hr, hl⟩)
  | none =>
    dsimp only
    have hk : k ∉ ks := fun z => by
      obtain ⟨e, he, r⟩ := paired_mem hp z
      have c := List.findIdx?_eq_none_iff.mp hfi e (pl.mem_iff.mp he)
      rw [r] at c
      cases c
    rw [if_neg hk] at hQ
    have hgw : ∀ (b : Bool) {s₁ : Shared} {Q' : Unit → Shared → Prop}, Q' () s₁ → wpAny (model P w) A (match b with | true => rule "set.scan.the-table-gave-way" | false => pure ()) Q' E s₁ :=
      fun b s₁ Q' q => by cases b <;> first | exact wpAny_pure q | exact wpAny_rule q
    have pm := layNew_perm t es (knd.hash k) x
    have hf1 := layNew_fits t es (knd.hash k) x
    have hr1 := layNew_ris t es (knd.hash k) x hr
    have hl1 := layNew_led t es (knd.hash k) x
    generalize layNew t es (knd.hash k) x = Z at pm hf1 hr1 hl1 ⊢
    obtain ⟨es1, t1, wasDummy, gave⟩ := Z
    dsimp only at pm hf1 hr1 hl1 ⊢
    rw [Array.toList_push] at pm
    have pc : es1.toList.Perm ((knd.hash k, x) :: es.toList) := pm.trans (List.perm_append_singleton _ _)
    have el1 : ElemsOf knd es1.toList := fun e he => by
      rcases List.mem_cons.mp (pc.mem_iff.mp he) with z | z
      · rw [z]; exact ⟨⟨k, hkey, rfl⟩, hsc⟩
      · exact hel e z
    have pr1 : ∃ l : List (Int × Value), l.Perm es1.toList ∧ Paired (fun e k => knd.is k e.2 = true) l (k :: ks) := ⟨(knd.hash k, x) :: l, (pl.cons _).trans pc.symm, .cons hkey hp⟩
    have nd1 : (k :: ks).Nodup := List.nodup_cons.mpr ⟨hk, nd⟩
    have hb1 : es1.size < scanBound := by rw [← Array.length_toList, pc.length_eq, List.length_cons, Array.length_toList, hlen]; exact room
    have hled : w.params.followText "set-order" = true ∨ t1.led = true := hl.imp id fun z => by rw [hl1]; exact z
    refine wpAny_bind (hgw _ ?_)
    split
    · refine wpAny_bind ?_
      rw [hashByValue_scannable 8 hsc]
      refine wpAny_pure ?_
      refine setW_tail ?_ ho hex hd el1 pr1 nd1 hb1 ?_ ?_ ?_ ?_
      · intro b s₁ Q' q; cases b <;> first | exact wpAny_pure q | exact wpAny_rule q
      · first | (split <;> first | exact hf1 | exact SetTable.fits_plain_off hf1) | exact hf1
      · first | (split <;> exact hr1) | exact hr1
      · first | (split <;> exact hled) | exact hled
      · intro h' sb r; dsimp only; exact wpAny_pure (hQ h' _ sb r)
    · refine wpAny_bind (wpAny_pure ?_)
      simp only [↓reduceIte]
      refine setW_tail ?_ ho hex hd el1 pr1 nd1 hb1 hf1 hr1 hled ?_
      · intro b s₁ Q' q; cases b <;> first | exact wpAny_pure q | exact wpAny_rule q
      · intro h' sb r; dsimp only; exact wpAny_pure (hQ h' _ sb r)
end
end FR
namespace FR
open PySem PySem.Spec PyProof.Rows L2
variable [TheW]

/-! ## readings bundled with what they give -/
structure Ex where
  te : PySem.W.Frag → TE
  ev : List E → Option D
  nd : PySem.W.Frag → Prop
  ok : ∀ {W : Wo} {n : Nat} {env : List E} {d : D} {Φ : D → Nat → Prop}, nd W.K → ev env = some d → Φ d n → Wp W (te W.K) n env Φ
structure Exs where
  ta : PySem.W.Frag → TA
  ev : List E → Option (List D)
  nd : PySem.W.Frag → Prop
  ok : ∀ {W : Wo} {n : Nat} {env : List E} {ds : List D} {Φ : List D → Nat → Prop}, nd W.K → ev env = some ds → Φ ds n → WpA W (ta W.K) n env Φ
structure Ts where
  tt : PySem.W.Frag → TT
  ev : List E → Option Bool
  nd : PySem.W.Frag → Prop
  ok : ∀ {W : Wo} {n : Nat} {env : List E} {b : Bool} {Φ : Bool → Nat → Prop}, nd W.K → ev env = some b → Φ b n → WpT W (tt W.K) n env Φ
structure Po where
  to : PySem.W.Frag → TO
  ev : List E → Option (Option Int)
  nd : PySem.W.Frag → Prop
  ok : ∀ {W : Wo} {n : Nat} {env : List E} {b : Option Int} {Φ : Option Int → Nat → Prop}, nd W.K → ev env = some b → Φ b n → WpO W (to W.K) n env Φ
structure Itx where
  ti : PySem.W.Frag → TI
  ev : List E → Option (List D)
  nd : PySem.W.Frag → Prop
  ok : ∀ {W : Wo} {n : Nat} {env : List E} {ds : List D} {Φ : List D → Nat → Prop}, nd W.K → ev env = some ds → Φ ds n → WpI W (ti W.K) n env Φ
structure Tgx where
  tg : PySem.W.Frag → TG
  L : List Nat
  ev : D → List E → Option (List E)
  ok : ∀ {W : Wo} {n : Nat} {env env' : List E} {d : D} {Φ : List E → Nat → Prop}, ev d env = some env' → Φ env' n → WpG W (tg W.K) L d n env Φ
structure Tgs where
  tg : PySem.W.Frag → TGs
  L : List Nat
  ev : List D → List E → Option (List E)
  ok : ∀ {W : Wo} {n : Nat} {env env' : List E} {ds : List D} {Φ : List E → Nat → Prop}, ev ds env = some env' → Φ env' n → WpGs W (tg W.K) L ds n env Φ
structure Sem2 where
  r : PySem.W.Frag → R2
  f : D → D → Option D
  ok : ∀ {W : Wo} {n : Nat} {x y d : D} {Φ : D → Nat → Prop}, f x y = some d → Φ d n → Op2 W (r W.K) n x y Φ
structure Sem1 where
  r : PySem.W.Frag → V → Hp → VK → Prop
  f : D → Option D
  ok : ∀ {W : Wo} {n : Nat} {x d : D} {Φ : D → Nat → Prop}, f x = some d → Φ d n → Op1 W (r W.K) n x Φ
structure SemN where
  r : PySem.W.Frag → List V → Hp → VK → Prop
  f : List D → Option D
  ok : ∀ {W : Wo} {n : Nat} {xs : List D} {d : D} {Φ : D → Nat → Prop}, f xs = some d → Φ d n → OpN W (r W.K) n xs Φ

theorem bind_inv {α β : Type} {o : Option α} {f : α → Option β} {b : β} (h : o.bind f = some b) : ∃ a, o = some a ∧ f a = some b := by
  cases o with
  | none => cases h
  | some a => exact ⟨a, rfl, h⟩

def tru (_ : PySem.W.Frag) : Prop := True
def two (a b : PySem.W.Frag → Prop) : PySem.W.Frag → Prop := fun K => a K ∧ b K
def blOf : D → Option Bool
  | .bl b => some b
  | _ => none
theorem blOf_inv {x : D} {b : Bool} (h : blOf x = some b) : x = .bl b := by
  cases x <;> first | (cases h; rfl) | cases h
def inOf : D → Option Int
  | .int b => some b
  | _ => none
theorem inOf_inv {x : D} {b : Int} (h : inOf x = some b) : x = .int b := by
  cases x <;> first | (cases h; rfl) | cases h

/-! ### leaves -/
def atEnv : Option E → Option D
  | some (.d x) => some x
  | _ => none
theorem atEnv_inv {o : Option E} {x : D} (h : atEnv o = some x) : o = some (.d x) := by
  cases o with
  | none => cases h
  | some e => cases e <;> first | (cases h; rfl) | cases h
def xVar (i : Nat) : Ex := ⟨fun _ => tVar i, fun env => atEnv env[i]?, tru, fun _ h q => wp_var (atEnv_inv h) q⟩
def xInt (i : Int) : Ex := ⟨fun _ => tC (.int i), fun _ => some (.int i), tru, fun _ h q => by cases h; exact wp_ci q⟩
def xStr (i : Str) : Ex := ⟨fun _ => tC (.str i), fun _ => some (.str i), tru, fun _ h q => by cases h; exact wp_cs q⟩
def xBl (i : Bool) : Ex := ⟨fun _ => tC (.bl i), fun _ => some (.bl i), tru, fun _ h q => by cases h; exact wp_cb q⟩
def xTy (i : String) : Ex := ⟨fun _ => tC (.ty i), fun _ => some (.ty i), tru, fun _ h q => by cases h; exact wp_ct q⟩
def xNon : Ex := ⟨fun _ => tC .non, fun _ => some .non, tru, fun _ h q => by cases h; exact wp_cn q⟩

/-! ### lists of readings -/
def aNil : Exs := ⟨fun _ => tNil, fun _ => some [], tru, fun _ h q => by cases h; exact wpA_nil q⟩
def aCons (a : Ex) (b : Exs) : Exs := ⟨fun K => tCons (a.te K) (b.ta K), fun env => (a.ev env).bind fun x => (b.ev env).bind fun xs => some (x :: xs), two a.nd b.nd, fun k h q => by
  obtain ⟨x, h1, h⟩ := bind_inv h
  obtain ⟨xs, h2, h⟩ := bind_inv h
  cases h
  exact wpA_cons (a.ok k.1 h1 (b.ok k.2 h2 q))⟩
/-- lengths within the line -/
def szOk (n : Nat) : Bool := Nat.ble n 16777216
theorem szOk_le {n : Nat} (h : szOk n = true) : n ≤ sizeLine := by
  rw [sizeLine_eq]
  exact Nat.le_of_ble_eq_true h
def when {α : Type} (b : Bool) (a : Option α) : Option α := match b with
  | true => a
  | false => none
theorem when_inv {α : Type} {b : Bool} {a : Option α} {c : α} (h : when b a = some c) : b = true ∧ a = some c := by
  cases b with
  | true => exact ⟨rfl, h⟩
  | false => cases h
def xTup (a : Exs) : Ex := ⟨fun K => tTupP (a.ta K), fun env => (a.ev env).bind fun xs => when (szOk xs.length) (some (.tup xs)), a.nd, fun k h q => by
  obtain ⟨x, h1, h⟩ := bind_inv h
  obtain ⟨h2, h⟩ := when_inv h
  cases h
  exact wp_tup (a.ok k h1 ⟨szOk_le h2, q⟩)⟩
def xLst (a : Exs) : Ex := ⟨fun K => tLst (a.ta K), fun env => (a.ev env).bind fun xs => when (szOk xs.length) (some (.lst xs)), a.nd, fun k h q => by
  obtain ⟨x, h1, h⟩ := bind_inv h
  obtain ⟨h2, h⟩ := when_inv h
  cases h
  exact wp_lst (a.ok k h1 ⟨szOk_le h2, q⟩)⟩
def xOp2 (s : Sem2) (a b : Ex) : Ex := ⟨fun K => tOp (s.r K) (a.te K) (b.te K), fun env => (a.ev env).bind fun x => (b.ev env).bind fun y => s.f x y, two a.nd b.nd, fun k h q => by
  obtain ⟨x, h1, h⟩ := bind_inv h
  obtain ⟨y, h2, h⟩ := bind_inv h
  exact wp_op (a.ok k.1 h1 (b.ok k.2 h2 (s.ok h q)))⟩
def xUn (s : Sem1) (a : Ex) : Ex := ⟨fun K => tUn (s.r K) (a.te K), fun env => (a.ev env).bind fun x => s.f x, a.nd, fun k h q => by
  obtain ⟨x, h1, h⟩ := bind_inv h
  exact wp_un (a.ok k h1 (s.ok h q))⟩
def xFn (s : SemN) (a : Exs) : Ex := ⟨fun K => tCB (s.r K) (a.ta K), fun env => (a.ev env).bind fun x => s.f x, a.nd, fun k h q => by
  obtain ⟨x, h1, h⟩ := bind_inv h
  exact wp_cb2 (a.ok k h1 (s.ok h q))⟩
def CF (f : List D → Option D) : List D → (D → Prop) → Prop := fun ds Φ => ∃ d, f ds = some d ∧ Φ d
def xCall (f : List D → Option D) (a : Exs) : Ex := ⟨fun K => tCall (spD K (CF f)) [] E0 (a.ta K), fun env => (a.ev env).bind fun x => f x, a.nd, fun k h q => by
  obtain ⟨x, h1, h⟩ := bind_inv h
  exact wp_call (a.ok k h1 ⟨_, h, q⟩)⟩

/-! ### truths -/
def tB_ (a : Ex) : Ts := ⟨fun K => tB (a.te K), fun env => (a.ev env).bind blOf, a.nd, fun k h q => by
  obtain ⟨x, h1, h⟩ := bind_inv h
  cases blOf_inv h
  exact wpT_B (a.ok k h1 ⟨_, rfl, q⟩)⟩
def tTest_ (a : Ex) : Ts := ⟨fun K => tTest (a.te K), fun env => (a.ev env).bind blOf, a.nd, fun k h q => by
  obtain ⟨x, h1, h⟩ := bind_inv h
  cases blOf_inv h
  exact wpT_test (a.ok k h1 ⟨_, rfl, q⟩)⟩
def tYes_ : Ts := ⟨fun _ => tYes, fun _ => some true, tru, fun _ h q => by cases h; exact wpT_yes q⟩
def tNot_ (a : Ts) : Ts := ⟨fun K => tNot (a.tt K), fun env => (a.ev env).bind fun b => some (!b), a.nd, fun k h q => by
  obtain ⟨x, h1, h⟩ := bind_inv h
  cases h
  exact wpT_not (a.ok k h1 q)⟩
def tAnd_ (a b : Ts) : Ts := ⟨fun K => tAnd (a.tt K) (b.tt K), fun env => (a.ev env).bind fun c => match c with
    | true => b.ev env
    | false => some false, two a.nd b.nd, fun k h q => by
  obtain ⟨x, h1, h⟩ := bind_inv h
  refine wpT_and (a.ok k.1 h1 ?_)
  cases x with
  | true => exact b.ok k.2 h q
  | false => cases h; exact q⟩
def tOr_ (a b : Ts) : Ts := ⟨fun K => tOr (a.tt K) (b.tt K), fun env => (a.ev env).bind fun c => match c with
    | true => some true
    | false => b.ev env, two a.nd b.nd, fun k h q => by
  obtain ⟨x, h1, h⟩ := bind_inv h
  refine wpT_or (a.ok k.1 h1 ?_)
  cases x with
  | true => cases h; exact q
  | false => exact b.ok k.2 h q⟩
def xAnd (a b : Ex) : Ex := ⟨fun K => tAndV (a.te K) (b.te K), fun env => (a.ev env).bind fun x => (blOf x).bind fun c => match c with
    | true => b.ev env
    | false => some (.bl false), two a.nd b.nd, fun k h q => by
  obtain ⟨x, h1, h⟩ := bind_inv h
  obtain ⟨c, h2, h⟩ := bind_inv h
  cases blOf_inv h2
  refine wp_andV (a.ok k.1 h1 ⟨_, rfl, ?_⟩)
  cases c with
  | true => exact b.ok k.2 h q
  | false => cases h; exact q⟩
def xOr (a b : Ex) : Ex := ⟨fun K => tOrV (a.te K) (b.te K), fun env => (a.ev env).bind fun x => (blOf x).bind fun c => match c with
    | true => some (.bl true)
    | false => b.ev env, two a.nd b.nd, fun k h q => by
  obtain ⟨x, h1, h⟩ := bind_inv h
  obtain ⟨c, h2, h⟩ := bind_inv h
  cases blOf_inv h2
  refine wp_orV (a.ok k.1 h1 ⟨_, rfl, ?_⟩)
  cases c with
  | true => cases h; exact q
  | false => exact b.ok k.2 h q⟩
def xNot (a : Ex) : Ex := ⟨fun K => tNotV (a.te K), fun env => (a.ev env).bind fun x => (blOf x).bind fun c => some (.bl (!c)), a.nd, fun k h q => by
  obtain ⟨x, h1, h⟩ := bind_inv h
  obtain ⟨c, h2, h⟩ := bind_inv h
  cases blOf_inv h2
  cases h
  exact wp_notV (a.ok k h1 ⟨_, rfl, q⟩)⟩
def xIf (t : Ts) (a b : Ex) : Ex := ⟨fun K => tIf (t.tt K) (a.te K) (b.te K), fun env => (t.ev env).bind fun c => match c with
    | true => a.ev env
    | false => b.ev env, two t.nd (two a.nd b.nd), fun k h q => by
  obtain ⟨x, h1, h⟩ := bind_inv h
  refine wp_if (t.ok k.1 h1 ?_)
  cases x with
  | true => exact a.ok k.2.1 h q
  | false => exact b.ok k.2.2 h q⟩
def xChain (s s' : Sem2) (a b c : Ex) : Ex := ⟨fun K => tChain (s.r K) (s'.r K) (a.te K) (b.te K) (c.te K), fun env => (a.ev env).bind fun x => (b.ev env).bind fun y => (s.f x y).bind fun z => (blOf z).bind fun t => match t with
    | true => (c.ev env).bind fun e => s'.f y e
    | false => some (.bl false), two a.nd (two b.nd c.nd), fun k h q => by
  obtain ⟨x, h1, h⟩ := bind_inv h
  obtain ⟨y, h2, h⟩ := bind_inv h
  obtain ⟨z, h3, h⟩ := bind_inv h
  obtain ⟨t, h4, h9⟩ := bind_inv h
  have e4 := blOf_inv h4
  subst e4
  refine wp_chain (a.ok k.1 h1 (b.ok k.2.1 h2 (s.ok h3 ⟨_, rfl, ?_⟩)))
  cases t with
  | true =>
    obtain ⟨e, h5, h6⟩ := bind_inv h9
    exact c.ok k.2.2 h5 (s'.ok h6 q)
  | false => cases h9; exact q⟩
def poNone : Po := ⟨fun _ => tNoPart, fun _ => some Option.none, tru, fun _ h q => by cases h; exact wpO_none q⟩
def poSome (a : Ex) : Po := ⟨fun K => tPart (a.te K), fun env => (a.ev env).bind fun x => (inOf x).bind fun i => some (some i), a.nd, fun k h q => by
  obtain ⟨x, h1, h⟩ := bind_inv h
  obtain ⟨c, h2, h⟩ := bind_inv h
  cases inOf_inv h2
  cases h
  exact wpO_some (a.ok k h1 ⟨_, rfl, q⟩)⟩

/-! ### targets -/
def gName_ (i : Nat) : Tgx := ⟨fun _ => gName i, [i], fun d env => some (env.set i (.d d)), fun h q => by cases h; exact wg_name q⟩
def gNil_ : Tgs := ⟨fun _ => gNil, [], fun ds env => match ds with
    | [] => some env
    | _ => none, fun {W n env env' ds Φ} h q => by
  cases ds with
  | nil => cases h; exact wgs_nil q
  | cons _ _ => cases h⟩
def gCons_ (g : Tgx) (gs : Tgs) : Tgs := ⟨fun K => gCons (g.tg K) (gs.tg K), g.L ++ gs.L, fun ds env => match ds with
    | [] => none
    | d :: ds => (g.ev d env).bind fun env1 => gs.ev ds env1, fun {W n env env' ds Φ} h q => by
  cases ds with
  | nil => cases h
  | cons d ds =>
    obtain ⟨x, h1, h⟩ := bind_inv h
    exact wgs_cons (g.ok h1 (gs.ok h q))⟩
def gTup_ (k : Nat) (gs : Tgs) : Tgx := ⟨fun K => gTup K k (gs.tg K), gs.L, fun d env => match d with
    | .tup ds => when (Nat.beq ds.length k) (gs.ev ds env)
    | .tpk ds => when (Nat.beq ds.length k) (gs.ev ds env)
    | _ => none, fun {W n env env' d Φ} h q => by
  cases d with
  | tpk ds =>
    obtain ⟨h1, h⟩ := when_inv h
    exact wg_tpk (Nat.eq_of_beq_eq_true h1) (gs.ok h q)
  | tup ds =>
    obtain ⟨h1, h⟩ := when_inv h
    exact wg_tup (Nat.eq_of_beq_eq_true h1) (gs.ok h q)
  | _ => cases h⟩

/-! ### comprehensions -/
def goLc (g : Tgx) (t : Ts) (e : Ex) (env : List E) : List D → Option (List D)
  | [] => some []
  | d :: ds => (g.ev d env).bind fun env2 => (t.ev env2).bind fun b => match b with
    | true => (e.ev env2).bind fun y => (goLc g t e env ds).bind fun ys => some (y :: ys)
    | false => goLc g t e env ds
def xLc (it : Itx) (g : Tgx) (t : Ts) (e : Ex) (sl : List Nat) (hL : (g.L.all fun i => sl.elem i) = true) : Ex := ⟨fun K => tLc (it.ti K) (g.tg K) (t.tt K) (e.te K) sl,
  fun env => (it.ev env).bind fun ds => when (szOk ds.length) ((goLc g t e (wipeE (env.map hideE) sl) ds).bind fun ys => some (.lst ys)), two it.nd (two t.nd e.nd), fun {W n env d Φ} k h q => by
  obtain ⟨ds, h1, h⟩ := bind_inv h
  obtain ⟨h2, h⟩ := when_inv h
  obtain ⟨ys, h3, h⟩ := bind_inv h
  cases h
  have hL' : ∀ i ∈ g.L, i ∈ sl := fun i hi => by
    have := List.all_eq_true.mp hL i hi
    simpa using this
  refine wp_lc (L := g.L) hL' (it.ok k.1 h1 ⟨fun i acc m => m = n ∧ ∃ rest, goLc g t e (wipeE (env.map hideE) sl) (ds.drop i) = some rest ∧ acc ++ rest = ys, ⟨rfl, ys, h3, rfl⟩, szOk_le h2, ?_, ?_⟩)
  · rintro i d acc m hd ⟨rfl, rest, hr, rfl⟩
    have hlt := (List.getElem?_eq_some_iff.mp hd).1
    have e1 : ds.drop i = d :: ds.drop (i + 1) := by
      rw [List.drop_eq_getElem_cons hlt]
      congr 1
      exact (List.getElem?_eq_some_iff.mp hd).2
    rw [e1] at hr
    obtain ⟨env2, h4, hr⟩ := bind_inv hr
    obtain ⟨b, h5, hr⟩ := bind_inv hr
    refine g.ok h4 (t.ok k.2.1 h5 ?_)
    cases b with
    | true =>
      obtain ⟨y, h6, hr⟩ := bind_inv hr
      obtain ⟨ys2, h7, hr⟩ := bind_inv hr
      cases hr
      exact e.ok k.2.2 h6 ⟨rfl, ys2, h7, by simp⟩
    | false => exact ⟨rfl, rest, hr, rfl⟩
  · rintro acc m ⟨rfl, rest, hr, rfl⟩ _
    rw [List.drop_length] at hr
    cases hr
    rw [List.append_nil] at q
    exact q⟩

/-! ### statements -/
inductive Fl where
  | nx (env : List E) | rt (d : D) | bk (env : List E) | ct (env : List E)
def Out.at (O : Out) (n : Nat) : Fl → Prop
  | .nx env => O.nx env n
  | .rt d => O.rt d n
  | .bk env => O.bk env n
  | .ct env => O.ct env n
structure Stx where
  ts : PySem.W.Frag → TS
  ev : List E → Option Fl
  nd : PySem.W.Frag → Prop
  ok : ∀ {W : Wo} {n : Nat} {env : List E} {fl : Fl} {O : Out}, nd W.K → ev env = some fl → O.at n fl → WpS W (ts W.K) n env O
def sNext : Stx := ⟨fun _ => tNext, fun env => some (.nx env), tru, fun _ h q => by cases h; exact ws_next q⟩
def sSeq (a b : Stx) : Stx := ⟨fun K => tSeq (a.ts K) (b.ts K), fun env => (a.ev env).bind fun fl => match fl with
    | .nx env' => b.ev env'
    | fl => some fl, two a.nd b.nd, fun {W n env fl O} k h q => by
  obtain ⟨fl1, h1, h⟩ := bind_inv h
  refine ws_seq (a.ok k.1 h1 ?_)
  cases fl1 with
  | nx env' => exact b.ok k.2 h q
  | _ => cases h; exact q⟩
def sDrop (e : Ex) : Stx := ⟨fun K => tDrop (e.te K), fun env => (e.ev env).bind fun _ => some (.nx env), e.nd, fun k h q => by
  obtain ⟨x, h1, h⟩ := bind_inv h
  cases h
  exact ws_drop (e.ok k h1 q)⟩
def sRet (e : Ex) : Stx := ⟨fun K => tRet (e.te K), fun env => (e.ev env).bind fun d => some (.rt d), e.nd, fun k h q => by
  obtain ⟨x, h1, h⟩ := bind_inv h
  cases h
  exact ws_ret (e.ok k h1 q)⟩
def sRetN : Stx := ⟨fun _ => tRetN, fun _ => some (.rt .non), tru, fun _ h q => by cases h; exact ws_retN q⟩
def sIf (t : Ts) (a b : Stx) : Stx := ⟨fun K => tIfS (t.tt K) (a.ts K) (b.ts K), fun env => (t.ev env).bind fun c => match c with
    | true => a.ev env
    | false => b.ev env, two t.nd (two a.nd b.nd), fun k h q => by
  obtain ⟨x, h1, h⟩ := bind_inv h
  refine ws_if (t.ok k.1 h1 ?_)
  cases x with
  | true => exact a.ok k.2.1 h q
  | false => exact b.ok k.2.2 h q⟩
def sAsg (e : Ex) (g : Tgx) : Stx := ⟨fun K => tAsg (e.te K) (g.tg K), fun env => (e.ev env).bind fun d => (g.ev d env).bind fun env' => some (.nx env'), e.nd, fun k h q => by
  obtain ⟨x, h1, h⟩ := bind_inv h
  obtain ⟨env', h2, h⟩ := bind_inv h
  cases h
  exact ws_asg (L := g.L) (e.ok k h1 (g.ok h2 q))⟩
def sBreak : Stx := ⟨fun _ => tBreak, fun env => some (.bk env), tru, fun _ h q => by cases h; exact ws_break q⟩
def sCont : Stx := ⟨fun _ => tCont, fun env => some (.ct env), tru, fun _ h q => by cases h; exact ws_cont q⟩
def goFor (g : Tgx) (b : Stx) : List D → List E → Option Fl
  | [], env => some (.nx env)
  | d :: ds, env => (g.ev d env).bind fun env2 => (b.ev env2).bind fun fl => match fl with
    | .nx e => goFor g b ds e
    | .ct e => goFor g b ds e
    | .bk e => some (.nx e)
    | .rt d => some (.rt d)
theorem goFor_at {g : Tgx} {b : Stx} : ∀ {ds : List D} {env : List E} {fl : Fl}, goFor g b ds env = some fl → (∃ e, fl = .nx e) ∨ ∃ d, fl = .rt d
  | [], env, fl, h => by cases h; exact .inl ⟨_, rfl⟩
  | d :: ds, env, fl, h => by
    obtain ⟨env2, h1, h⟩ := bind_inv h
    obtain ⟨f1, h2, h⟩ := bind_inv h
    cases f1 with
    | nx e => exact goFor_at (ds := ds) h
    | ct e => exact goFor_at (ds := ds) h
    | bk e => cases h; exact .inl ⟨_, rfl⟩
    | rt d => cases h; exact .inr ⟨_, rfl⟩
def sFor (it : Itx) (g : Tgx) (b : Stx) : Stx := ⟨fun K => tFor (it.ti K) (g.tg K) (b.ts K), fun env => (it.ev env).bind fun ds => goFor g b ds env, two it.nd b.nd, fun {W n env fl O} k h q => by
  obtain ⟨ds, h1, h⟩ := bind_inv h
  refine ws_for (L := g.L) (it.ok k.1 h1 ⟨fun i env' m => m = n ∧ goFor g b (ds.drop i) env' = some fl, ⟨rfl, h⟩, ?_, ?_⟩)
  · rintro i d env' m hd ⟨rfl, hr⟩
    have hlt := (List.getElem?_eq_some_iff.mp hd).1
    have e1 : ds.drop i = d :: ds.drop (i + 1) := by
      rw [List.drop_eq_getElem_cons hlt]
      congr 1
      exact (List.getElem?_eq_some_iff.mp hd).2
    rw [e1] at hr
    obtain ⟨env2, h4, hr⟩ := bind_inv hr
    obtain ⟨f1, h5, hr⟩ := bind_inv hr
    refine g.ok h4 (b.ok k.2 h5 ?_)
    cases f1 with
    | nx e => exact ⟨rfl, hr⟩
    | ct e => exact ⟨rfl, hr⟩
    | bk e => cases hr; exact q
    | rt d => cases hr; exact q
  · rintro env' m ⟨rfl, hr⟩
    rw [List.drop_length] at hr
    cases hr
    exact q⟩
def goWhile (t : Ts) (b : Stx) : Nat → List E → Option Fl
  | 0, _ => none
  | k + 1, env => (t.ev env).bind fun c => match c with
    | false => some (.nx env)
    | true => (b.ev env).bind fun fl => match fl with
      | .nx e => goWhile t b k e
      | .ct e => goWhile t b k e
      | .bk e => some (.nx e)
      | .rt d => some (.rt d)
/-- a while of fewer turns than its fuel -/
def sWhile (fuel : List E → Nat) (t : Ts) (b : Stx) : Stx := ⟨fun K => tWhile (t.tt K) (b.ts K), fun env => goWhile t b (fuel env) env, two t.nd b.nd, fun {W n env fl O} k h q => by
  refine ws_while (fun m env' n' => n' = n ∧ goWhile t b m env' = some fl) ⟨_, rfl, h⟩ ?_
  rintro m env' n' ⟨rfl, hr⟩
  cases m with
  | zero => cases hr
  | succ m =>
    obtain ⟨c, h1, hr⟩ := bind_inv hr
    refine t.ok k.1 h1 ?_
    cases c with
    | false => cases hr; exact q
    | true =>
      obtain ⟨f1, h2, hr⟩ := bind_inv hr
      refine b.ok k.2 h2 ?_
      cases f1 with
      | nx e => exact ⟨m, Nat.lt_succ_self _, rfl, hr⟩
      | ct e => exact ⟨m, Nat.lt_succ_self _, rfl, hr⟩
      | bk e => cases hr; exact q
      | rt d => cases hr; exact q⟩
end FR
namespace FR
open PySem PySem.Spec PyProof.Rows L2
variable [TheW]

/-! ## operations, several kinds of operands in one -/
def orElse_ {α : Type} (a b : Option α) : Option α := match a with
  | some x => some x
  | none => b
theorem orElse_inv {α : Type} {a b : Option α} {x : α} (h : orElse_ a b = some x) : a = some x ∨ b = some x := by
  cases a with
  | none => exact .inr h
  | some y => exact .inl h
def Sem2.or (a b : Sem2) : Sem2 := ⟨fun K x y H Q => a.r K x y H Q ∨ b.r K x y H Q, fun x y => orElse_ (a.f x y) (b.f x y), fun h q env σ stk vs vx vy H Q w k => by
  rcases orElse_inv h with h | h
  · exact .inl (a.ok h q env σ stk vs vx vy H Q w k)
  · exact .inr (b.ok h q env σ stk vs vx vy H Q w k)⟩
def SemN.or (a b : SemN) : SemN := ⟨fun K x H Q => a.r K x H Q ∨ b.r K x H Q, fun x => orElse_ (a.f x) (b.f x), fun h q env σ stk vs us H Q l w k => by
  rcases orElse_inv h with h | h
  · exact .inl (a.ok h q env σ stk vs us H Q l w k)
  · exact .inr (b.ok h q env σ stk vs us H Q l w k)⟩
/-- whole numbers without a bound -/
def mI (g : Int → Int → V) (gd : Int → Int → D) (hd : ∀ i j K U, Rp K U (g i j) (gd i j)) : Sem2 := ⟨fun _ => rI0 g, fun x y => match x, y with
    | .int i, .int j => some (gd i j)
    | _, _ => none, fun {W n x y d Φ} h q => by
  cases x <;> cases y <;> first | (cases h; done) | (cases h; exact op2_i (fun K U => hd _ _ K U) q)⟩
def mIc (C : Int → Int → Prop) (c : Int → Int → Bool) (hc : ∀ i j, c i j = true → C i j) (g : Int → Int → V) (gd : Int → Int → D) (hd : ∀ i j K U, Rp K U (g i j) (gd i j)) : Sem2 := ⟨fun _ => rI C g, fun x y => match x, y with
    | .int i, .int j => when (c i j) (some (gd i j))
    | _, _ => none, fun {W n x y d Φ} h q => by
  cases x <;> cases y <;> first | (cases h; done) | (obtain ⟨h1, h2⟩ := when_inv h; cases h2; exact op2_ic (hc _ _ h1) (fun K U => hd _ _ K U) q)⟩
/-- texts, compared -/
def mS (g : Str → Str → Bool) : Sem2 := ⟨fun _ x y H Q => ∃ i j, x = .str i ∧ y = .str j ∧ Q (.bl (g i j)) H, fun x y => match x, y with
    | .str i, .str j => some (.bl (g i j))
    | _, _ => none, fun {W n x y d Φ} h q => by
  cases x <;> cases y <;> first | (cases h; done) | (cases h; exact op2_pure (fun vx vy H Q h1 h2 k => by cases h1; cases h2; exact ⟨_, _, rfl, rfl, k⟩) (fun _ _ => .bl _) q)⟩
def mLt : Sem2 := (mI (fun i j => .bl (decide (i < j))) (fun i j => .bl (decide (i < j))) fun _ _ _ _ => .bl _).or (mS fun i j => decide (i.cps.toList < j.cps.toList))
def mLe : Sem2 := (mI (fun i j => .bl (decide (i ≤ j))) (fun i j => .bl (decide (i ≤ j))) fun _ _ _ _ => .bl _).or (mS fun i j => !decide (j.cps.toList < i.cps.toList))
def mGt : Sem2 := (mI (fun i j => .bl (decide (i > j))) (fun i j => .bl (decide (i > j))) fun _ _ _ _ => .bl _).or (mS fun i j => decide (j.cps.toList < i.cps.toList))
def mGe : Sem2 := (mI (fun i j => .bl (decide (i ≥ j))) (fun i j => .bl (decide (i ≥ j))) fun _ _ _ _ => .bl _).or (mS fun i j => !decide (i.cps.toList < j.cps.toList))
/-- may it be compared by == -/
def layD (x : D) : Bool := noDct x && decide ((py x).depth ≤ 64)
def eqX (x y : D) : Bool := PyData.eqv (py x) (py y)
mutual
theorem plain_of : ∀ {x : D}, noDct x = true → (py x).plain = true
  | .non, _ => rfl
  | .bl _, _ => rfl
  | .int _, _ => rfl
  | .str _, _ => rfl
  | .lst xs, h => by rw [py, PyData.plain]; exact plain_ofL (xs := xs) (by rw [noDct] at h; exact h)
  | .tup xs, h => by rw [py, PyData.plain]; exact plain_ofL (xs := xs) (by rw [noDct] at h; exact h)
  | .dct _, h => by rw [noDct] at h; cases h
  | .ty _, _ => rfl
  | .lsq _, h => by rw [noDct] at h; cases h
  | .dcT _, _ => rfl
  | .ins _ _ _ _, _ => rfl
  | .tpk _, _ => rfl
theorem plain_ofL : ∀ {xs : List D}, noDctL xs = true → PyData.plainAll (pyL xs) = true
  | [], _ => rfl
  | x :: xs, h => by
    rw [noDctL, Bool.and_eq_true] at h
    rw [pyL, PyData.plainAll, plain_of h.1, plain_ofL h.2]
    rfl
end
def rEqP (K : PySem.W.Frag) : R2 := fun x y H Q => ∃ d e, Dp K H x d ∧ Dp K H y e ∧ (d.plain = true ∧ d.depth ≤ 64) ∧ (e.plain = true ∧ e.depth ≤ 64) ∧ Q (.bl (PyData.eqv d e)) H
def rNeP (K : PySem.W.Frag) : R2 := fun x y H Q => ∃ d e, Dp K H x d ∧ Dp K H y e ∧ (d.plain = true ∧ d.depth ≤ 64) ∧ (e.plain = true ∧ e.depth ≤ 64) ∧ Q (.bl (!PyData.eqv d e)) H
section
variable {X : Cx} {K : PySem.W.Frag}
theorem k_eqP (hK : X.K = K) (hu : X.A.units + 64 < cLine) : OpR X (compareOp .Eq) (rEqP K) := by
  subst hK
  intro pins s σ H x y v u Q I rx ry h
  obtain ⟨d, e, hd, he, sd, se, q⟩ := h
  obtain ⟨as, r1⟩ := Dp.reads I d x v hd rx
  obtain ⟨bs, r2⟩ := Dp.reads I e y u he ry
  exact SeqAt.eq_plain r1 r2 sd.1 se.1 (by have := sd.2; omega) ⟨.bl _, H, I, rfl, q⟩
theorem k_neP (hK : X.K = K) (hu : X.A.units + 64 < cLine) : OpR X (compareOp .NotEq) (rNeP K) := by
  subst hK
  intro pins s σ H x y v u Q I rx ry h
  obtain ⟨d, e, hd, he, sd, se, q⟩ := h
  obtain ⟨as, r1⟩ := Dp.reads I d x v hd rx
  obtain ⟨bs, r2⟩ := Dp.reads I e y u he ry
  exact SeqAt.ne_plain r1 r2 sd.1 se.1 (by have := sd.2; omega) ⟨.bl _, H, I, rfl, q⟩
end
theorem op_eqp {W : Wo} {n : Nat} {x y : D} {Φ : D → Nat → Prop} (h : (layD x && layD y) = true) (q : Φ (.bl (PyData.eqv (py x) (py y))) n) : Op2 W (rEqP W.K) n x y Φ := by
  unfold layD at h
  simp only [Bool.and_eq_true, decide_eq_true_eq] at h
  exact op2_pure (fun vx vy H Q h1 h2 k => ⟨_, _, h1.dp h.1.1, h2.dp h.2.1, ⟨plain_of h.1.1, h.1.2⟩, ⟨plain_of h.2.1, h.2.2⟩, k⟩) (fun _ _ => .bl _) q
theorem op_nep {W : Wo} {n : Nat} {x y : D} {Φ : D → Nat → Prop} (h : (layD x && layD y) = true) (q : Φ (.bl (!PyData.eqv (py x) (py y))) n) : Op2 W (rNeP W.K) n x y Φ := by
  unfold layD at h
  simp only [Bool.and_eq_true, decide_eq_true_eq] at h
  exact op2_pure (fun vx vy H Q h1 h2 k => ⟨_, _, h1.dp h.1.1, h2.dp h.2.1, ⟨plain_of h.1.1, h.1.2⟩, ⟨plain_of h.2.1, h.2.2⟩, k⟩) (fun _ _ => .bl _) q
def mEqS : Sem2 := ⟨fun _ => rEq, fun x y => when (scalD x y) (some (.bl (eqD x y))), fun h q => by obtain ⟨h1, h2⟩ := when_inv h; cases h2; exact op_eqs h1 q⟩
def mNeS : Sem2 := ⟨fun _ => rNe, fun x y => when (scalD x y) (some (.bl (!eqD x y))), fun h q => by obtain ⟨h1, h2⟩ := when_inv h; cases h2; exact op_nes h1 q⟩
def mEqD : Sem2 := ⟨fun K => rEqP K, fun x y => when (layD x && layD y) (some (.bl (eqX x y))), fun h q => by obtain ⟨h1, h2⟩ := when_inv h; cases h2; exact op_eqp h1 q⟩
def mNeD : Sem2 := ⟨fun K => rNeP K, fun x y => when (layD x && layD y) (some (.bl (!eqX x y))), fun h q => by obtain ⟨h1, h2⟩ := when_inv h; cases h2; exact op_nep h1 q⟩
def mEq : Sem2 := mEqS.or mEqD
def mNe : Sem2 := mNeS.or mNeD
def mIs : Sem2 := ⟨fun _ x y H Q => y = .non ∧ Q (.bl (decide (x = .non))) H, fun x y => match y with
    | .non => some (.bl (isNon x))
    | _ => none, fun {W n x y d Φ} h q => by cases y <;> first | (cases h; done) | (cases h; exact op_is q)⟩
def mIsnt : Sem2 := ⟨fun _ x y H Q => y = .non ∧ Q (.bl (!decide (x = .non))) H, fun x y => match y with
    | .non => some (.bl (!isNon x))
    | _ => none, fun {W n x y d Φ} h q => by cases y <;> first | (cases h; done) | (cases h; exact op_isnt q)⟩
theorem op_ninT {W : Wo} {n : Nat} {x : D} {Φ : D → Nat → Prop} {xs : List D} (f : flatD x = true) (g : xs.all flatD = true) (q : Φ (.bl (!inD x xs)) n) : Op2 W (rIn W.K true) n x (.tup xs) Φ :=
  fun env σ stk vs vx vy H Q w k => by
    have h1 := w.pop.top
    have h2 := w.top
    cases h2 with
    | tup hs hr => exact ⟨_, _, rfl, .inr hs.sq, (h1.flat f).1, hr.flat g, by rw [if_pos rfl, hr.inV g h1 f]; exact k _ _ n H q (w.pop.pop.push fun U _ => .bl _)⟩
theorem op_ninL {W : Wo} {n : Nat} {x : D} {Φ : D → Nat → Prop} {xs : List D} (f : flatD x = true) (g : xs.all flatD = true) (q : Φ (.bl (!inD x xs)) n) : Op2 W (rIn W.K true) n x (.lst xs) Φ :=
  fun env σ stk vs vx vy H Q w k => by
    have h1 := w.pop.top
    have h2 := w.top
    cases h2 with
    | lst hs hr => exact ⟨_, _, rfl, .inl (.inl (.inl hs)), (h1.flat f).1, hr.flat g, by rw [if_pos rfl, hr.inV g h1 f]; exact k _ _ n H q (w.pop.pop.push fun U _ => .bl _)⟩
def mInQ : Sem2 := ⟨fun K => rIn K false, fun x y => match y with
    | .tup ys => when (flatD x && ys.all flatD) (some (.bl (inD x ys)))
    | .lst ys => when (flatD x && ys.all flatD) (some (.bl (inD x ys)))
    | _ => none, fun {W n x y d Φ} h q => by
  cases y with
  | tup ys => obtain ⟨h1, h2⟩ := when_inv h; cases h2; rw [Bool.and_eq_true] at h1; exact op_inT h1.1 h1.2 q
  | lst ys => obtain ⟨h1, h2⟩ := when_inv h; cases h2; rw [Bool.and_eq_true] at h1; exact op_inL h1.1 h1.2 q
  | _ => cases h⟩
def mNinQ : Sem2 := ⟨fun K => rIn K true, fun x y => match y with
    | .tup ys => when (flatD x && ys.all flatD) (some (.bl (!inD x ys)))
    | .lst ys => when (flatD x && ys.all flatD) (some (.bl (!inD x ys)))
    | _ => none, fun {W n x y d Φ} h q => by
  cases y with
  | tup ys => obtain ⟨h1, h2⟩ := when_inv h; cases h2; rw [Bool.and_eq_true] at h1; exact op_ninT h1.1 h1.2 q
  | lst ys => obtain ⟨h1, h2⟩ := when_inv h; cases h2; rw [Bool.and_eq_true] at h1; exact op_ninL h1.1 h1.2 q
  | _ => cases h⟩
def signOf (z : Str) : Option Nat := match z.cps.toList with
  | [c] => some c
  | _ => none
theorem signOf_inv {z : Str} {c : Nat} (h : signOf z = some c) : z = ⟨#[c]⟩ := by
  unfold signOf at h
  split at h
  · rename_i e
    cases h
    obtain ⟨a⟩ := z
    congr 1
    exact Array.toList_inj.mp e
  · cases h
def mInS : Sem2 := ⟨fun _ x y H Q => ∃ (c : Nat) (z : Str), x = .str ⟨#[c]⟩ ∧ y = .str z ∧ Q (.bl (decide (c ∈ z.cps.toList))) H, fun x y => match x, y with
    | .str a, .str z => (signOf a).bind fun c => some (.bl (decide (c ∈ z.cps.toList)))
    | _, _ => none, fun {W n x y d Φ} h q => by
  cases x <;> cases y <;> first | (cases h; done) | (obtain ⟨c, h1, h2⟩ := bind_inv h; cases h2; cases signOf_inv h1; exact op_sign q)⟩
def mIn : Sem2 := mInQ.or mInS
def mNin : Sem2 := mNinQ
/-! ### sums and products -/
def mCatS : Sem2 := ⟨fun _ x y H Q => ∃ i j, x = .str i ∧ y = .str j ∧ i.length + j.length ≤ sizeLine ∧ Q (.str (i ++ j)) H, fun x y => match x, y with
    | .str i, .str j => when (szOk (i.length + j.length)) (some (.str (i ++ j)))
    | _, _ => none, fun {W n x y d Φ} h q => by
  cases x <;> cases y <;> first | (cases h; done) | (obtain ⟨h1, h2⟩ := when_inv h; cases h2; exact op2_pure (fun vx vy H Q h3 h4 k => by cases h3; cases h4; exact ⟨_, _, rfl, rfl, szOk_le h1, k⟩) (fun _ _ => .str _) q)⟩
def mCatT : Sem2 := ⟨fun K => rCatP K, fun x y => match x, y with
    | .tup i, .tup j => when (szOk (i.length + j.length)) (some (.tup (i ++ j)))
    | _, _ => none, fun {W n x y d Φ} h q => by
  cases x <;> cases y <;> first | (cases h; done) | (obtain ⟨h1, h2⟩ := when_inv h; cases h2; exact op_cT (szOk_le h1) q)⟩
def mCatL : Sem2 := ⟨fun _ => rCat, fun x y => match x, y with
    | .lst i, .lst j => when (szOk (i.length + j.length)) (some (.lst (i ++ j)))
    | _, _ => none, fun {W n x y d Φ} h q => by
  cases x <;> cases y <;> first | (cases h; done) | (obtain ⟨h1, h2⟩ := when_inv h; cases h2; exact op_cL (szOk_le h1) q)⟩
def mAdd : Sem2 := (mI (fun i j => .int (i + j)) (fun i j => .int (i + j)) fun _ _ _ _ => .int _).or (mCatS.or (mCatT.or mCatL))
def mSub : Sem2 := mI (fun i j => .int (i - j)) (fun i j => .int (i - j)) fun _ _ _ _ => .int _
def sm64 (i : Int) : Bool := Nat.ble i.natAbs 18446744073709551615
theorem sm64_inv {i : Int} (h : sm64 i = true) : -(2 ^ 64) < i ∧ i < 2 ^ 64 := by
  have h' := Nat.le_of_ble_eq_true h
  omega
def mMulI : Sem2 := mIc CMul (fun i j => sm64 i || sm64 j) (fun i j h => by
  rw [Bool.or_eq_true] at h
  rcases h with h | h
  · exact .inl (sm64_inv h)
  · exact .inr (sm64_inv h)) (fun i j => .int (i * j)) (fun i j => .int (i * j)) fun _ _ _ _ => .int _
def mMul : Sem2 := mMulI
def mMod : Sem2 := mIc (fun _ j => 0 < j) (fun _ j => decide (0 < j)) (fun i j h => of_decide_eq_true h) (fun i j => .int (i % j)) (fun i j => .int (i % j)) fun _ _ _ _ => .int _
def mDiv : Sem2 := mIc CDiv (fun _ j => decide (0 < j) && Nat.ble j.toNat 1073741823) (fun i j h => by
  rw [Bool.and_eq_true, decide_eq_true_eq] at h
  have h' := Nat.le_of_ble_eq_true h.2
  exact ⟨h.1, by omega⟩) (fun i j => .int (i / j)) (fun i j => .int (i / j)) fun _ _ _ _ => .int _
def mIx : Sem2 := ⟨fun K => rIx K, fun x y => match x, y with
    | .tup xs, .int i => atI xs i
    | .lst xs, .int i => atI xs i
    | .lsq xs, .int i => atI xs i
    | .str z, .int i => when (szOk z.length) ((atI z.cps.toList i).bind fun c => some (.str ⟨#[c]⟩))
    | _, _ => none, fun {W n x y d Φ} h q => by
  cases x <;> cases y <;> first
    | (cases h; done)
    | exact fun env σ stk vs vx vy H Q w k => .inl (op_ixL h q env σ stk vs vx vy H Q w k)
    | exact fun env σ stk vs vx vy H Q w k => .inr (.inl (op_ixT h q env σ stk vs vx vy H Q w k))
    | exact fun env σ stk vs vx vy H Q w k => .inl (op_ixLq h q env σ stk vs vx vy H Q w k)
    | exact fun env σ stk vs vx vy H Q w k => by
        obtain ⟨h1, h2⟩ := when_inv h
        obtain ⟨c, h3, h4⟩ := bind_inv h2
        cases h4
        exact .inr (.inr (op2_pure (r := rIxS) (fun vx vy H Q h5 h6 k => by cases h5; cases h6; exact ⟨_, _, _, rfl, rfl, szOk_le h1, h3, k⟩) (fun _ _ => .str _) q env σ stk vs vx vy H Q w k))⟩
def mNeg : Sem1 := ⟨fun _ => rU fun i => .int (-i), fun x => match x with
    | .int i => some (.int (-i))
    | _ => none, fun {W n x d Φ} h q => by cases x <;> first | (cases h; done) | (cases h; exact op1_pure (fun vx H Q h k => by cases h; exact ⟨_, rfl, k⟩) (fun _ _ => .int _) q)⟩

/-! ### the rules for the text -/
section
variable {X : Cx} {K : PySem.W.Frag}
theorem r_lt : OpR X (compareOp .Lt) (mLt.r K) := op_lt.or op_lt_str
theorem r_le : OpR X (compareOp .LtE) (mLe.r K) := op_le.or op_le_str
theorem r_gt : OpR X (compareOp .Gt) (mGt.r K) := op_gt.or op_gt_str
theorem r_ge : OpR X (compareOp .GtE) (mGe.r K) := op_ge.or op_ge_str
theorem r_eq (h : X.K = K) (hu : X.A.units + 64 < cLine) : OpR X (compareOp .Eq) (mEq.r K) := op_eq.or (k_eqP h hu)
theorem r_ne (h : X.K = K) (hu : X.A.units + 64 < cLine) : OpR X (compareOp .NotEq) (mNe.r K) := op_ne.or (k_neP h hu)
theorem r_is : OpR X (compareOp .Is) (mIs.r K) := op_isN
theorem r_isnt : OpR X (compareOp .IsNot) (mIsnt.r K) := op_notN
theorem r_in (h : X.K = K) : OpR X (compareOp .In) (mIn.r K) := (k_in h).or op_in_sign
theorem r_nin (h : X.K = K) : OpR X (compareOp .NotIn) (mNin.r K) := k_notin h
theorem r_add (h : X.K = K) : OpR X (binaryOp .Add) (mAdd.r K) := op_add.or (op_add_str.or ((k_catT h).or op_cat))
theorem r_sub : OpR X (binaryOp .Sub) (mSub.r K) := op_sub
theorem r_mul (h : X.K = K) : OpR X (binaryOp .Mult) (mMul.r K) := op_mul
theorem r_mod : OpR X (binaryOp .Mod) (mMod.r K) := op_mod
theorem r_div : OpR X (binaryOp .FloorDiv) (mDiv.r K) := op_fdiv
theorem r_ix (h : X.K = K) : IxR X (mIx.r K) := h ▸ ix_seq
theorem r_neg : UnR X (unaryOp .USub) (mNeg.r K) := un_neg
end
end FR
namespace FR
open PySem PySem.Spec PyProof.Rows L2
variable [TheW]

/-! ## what is walked -/
theorem itD_tup {K : PySem.W.Frag} {a : Addr} {xs : List D} : ItD K (Itt K a) xs [.tup xs] [.ref a] := ⟨by
  refine ⟨fun H => ∃ ws, SqT K H a ws ∧ ws.length = xs.length, fun i H x H' => H' = H ∧ ∀ ws, SqT K H a ws → ws[i]? = some x, ⟨?_, ?_, ?_⟩, ?_, ?_⟩
  · rintro i H hi ⟨ws, h1, h2⟩
    exact ⟨ws, ws[i]'(by omega), h1, by simp [show i < ws.length by omega]⟩
  · rintro H ⟨ws, h1, h2⟩
    exact ⟨ws, h1, by omega⟩
  · rintro i H x H' hi ⟨ws, h1, h2⟩ y
    exact y
  · intro H rl
    cases rl with
    | cons r _ =>
      cases r with
      | tup a b => exact ⟨_, a.sq, b.len⟩
  · rintro i H x H' hi rl ⟨rfl, y⟩
    refine ⟨xs[i], by simp [hi], Same.refl _, fun M _ rl2 => ?_⟩
    cases rl2 with
    | cons r _ =>
      cases r with
      | tup a b =>
        obtain ⟨u, e1, e2⟩ := b.get (i := i) (x := xs[i]) (by simp [hi])
        have e3 := y _ (same_sqT (era_sub _ _) a)
        rw [e1] at e3
        cases e3
        exact e2⟩
theorem itD_lst {K : PySem.W.Frag} {a : Addr} {xs : List D} : ItD K (Itl K a) xs [.lst xs] [.ref a] := ⟨by
  refine ⟨fun H => ∃ ws, SqL K H a ws ∧ ws.length = xs.length, fun i H x H' => H' = H ∧ ∀ ws, SqL K H a ws → ws[i]? = some x, ⟨?_, ?_, ?_⟩, ?_, ?_⟩
  · rintro i H hi ⟨ws, h1, h2⟩
    exact ⟨ws, ws[i]'(by omega), h1, by simp [show i < ws.length by omega]⟩
  · rintro H ⟨ws, h1, h2⟩
    exact ⟨ws, h1, by omega⟩
  · rintro i H x H' hi ⟨ws, h1, h2⟩ y
    exact y
  · intro H rl
    cases rl with
    | cons r _ =>
      cases r with
      | lst a b => exact ⟨_, .inl (.inl a), b.len⟩
  · rintro i H x H' hi rl ⟨rfl, y⟩
    refine ⟨xs[i], by simp [hi], Same.refl _, fun M _ rl2 => ?_⟩
    cases rl2 with
    | cons r _ =>
      cases r with
      | lst a b =>
        obtain ⟨u, e1, e2⟩ := b.get (i := i) (x := xs[i]) (by simp [hi])
        have e3 := y _ (.inl (.inl (era_sub _ _ _ _ a)))
        rw [e1] at e3
        cases e3
        exact e2⟩
theorem itD_str {K : PySem.W.Frag} {z : Str} : ItD K (Its z) (signs z) [] [] := ⟨by
  have hl : (signs z).length = z.cps.size := by simp [signs]
  refine ⟨_, _, by rw [hl]; exact walk_str, fun _ _ => trivial, ?_⟩
  rintro i H x H' hi rl ⟨rfl, c, e1, rfl⟩
  refine ⟨.str ⟨#[c]⟩, ?_, Same.refl _, fun M _ _ => .str _⟩
  show (z.cps.toList.map fun c => D.str ⟨#[c]⟩)[i]? = _
  rw [List.getElem?_map, Array.getElem?_toList, e1]
  rfl⟩
/-- a tuple, a list or a text, walked -/
def iSeq (K : PySem.W.Frag) (te : TE) : TI := fun σ H R => te σ H fun x H1 => (∃ a, x = .ref a ∧ (∃ xs, SqT K H1 a xs) ∧ R (Itt K a) H1) ∨ (∃ a, x = .ref a ∧ (∃ xs, SqL K H1 a xs) ∧ R (Itl K a) H1) ∨ ∃ z, x = .str z ∧ R (Its z) H1
def itemsOf : D → Option (List D)
  | .tup xs => some xs
  | .lst xs => some xs
  | .str z => some (signs z)
  | _ => none
theorem wi_seq {W : Wo} {n : Nat} {env : List E} {te : TE} {Φ : List D → Nat → Prop} (q : Wp W te n env fun x n1 => ∃ xs, itemsOf x = some xs ∧ Φ xs n1) : WpI W (iSeq W.K te) n env Φ := fun σ stk vs H R w k =>
  q σ stk vs H _ w fun v d n1 H1 q1 w1 => by
    obtain ⟨xs, e, q1⟩ := q1
    have t := w1.top
    cases d with
    | tup ys =>
      cases e
      cases t with
      | @tup a us _ hs hr => exact .inl ⟨a, rfl, ⟨_, hs.sq⟩, k _ xs n1 H1 [.tup xs] [.ref a] q1 rfl w1 itD_tup.up⟩
    | lst ys =>
      cases e
      cases t with
      | @lst a us _ hs hr => exact .inr (.inl ⟨a, rfl, ⟨_, .inl (.inl hs)⟩, k _ xs n1 H1 [.lst xs] [.ref a] q1 rfl w1 itD_lst.up⟩)
    | str z =>
      cases e
      cases t
      exact .inr (.inr ⟨z, rfl, k _ (signs z) n1 H1 [] [] q1 rfl w1.pop itD_str.up⟩)
    | _ => cases e
theorem r_seq {X : Cx} {K : PySem.W.Frag} {tg l : Expr} {tl : TE} (hK : X.K = K) (hl : PE X l tl) : PI X tg l (iSeq K tl) := by
  subst hK
  refine ⟨fun pins s σ H R I h => thn (hl.run pins s σ H _ I h) fun v s1 z => ?_⟩
  obtain ⟨x, H1, I1, r1, q1⟩ := z
  have fin : ∀ o : Obj, ∀ b, b ∈ [s1.heap.objs.size] → FpOk X pins H1 b := fun o b hb => by
    rw [List.mem_singleton] at hb
    rw [hb]
    exact I1.fpOk (Nat.le_refl _) (I1.hok.fresh (Nat.le_refl _))
  rcases q1 with ⟨a, e, ⟨xs, hq⟩, q⟩ | ⟨a, e, ⟨xs, hq⟩, q⟩ | ⟨y, e, q⟩
  · subst e; cases r1
    obtain ⟨its, rv, p, hz⟩ := I1.tuple hq
    exact wpAny_pyIter_tuple (show s1.heap.IsTuple a its.toArray from p) ⟨s1.heap.objs.size, [s1.heap.objs.size], _, _, H1, rfl, I1.kept (t' := s1.toks) fun b o e => Heap.get?_push_of_some _ e,
      turn_tuple a _, ⟨_, Heap.get?_push_size _ rfl, rfl, rfl⟩, fin default, q⟩
  · subst e; cases r1
    obtain ⟨its, rv, p, hz⟩ := I1.list hq
    exact wpAny_pyIter_list p.isList ⟨s1.heap.objs.size, [s1.heap.objs.size], _, _, H1, rfl, I1.kept (t' := s1.toks) fun b o e => Heap.get?_push_of_some _ e,
      turn_list a _, ⟨_, Heap.get?_push_size _ rfl, rfl, rfl⟩, fin default, q⟩
  · subst e
    obtain ⟨t, e2⟩ := r1
    subst e2
    cases ha : y.cps.all (· < 128) with
    | false => exact wpAny_pyIter_wide ha (pi_one (tk := s1.toks) I1 _ (turn_str _ y t "str_iterator" (.inr rfl)) ⟨_, Heap.get?_push_size _ rfl, rfl, rfl⟩ q)
    | true => exact wpAny_pyIter_ascii ha (pi_one (tk := s1.toks) I1 _ (turn_str _ y t "str_ascii_iterator" (.inl rfl)) ⟨_, Heap.get?_push_size _ rfl, rfl, rfl⟩ q)
def jSeq (e : Ex) : Itx := ⟨fun K => iSeq K (e.te K), fun env => (e.ev env).bind itemsOf, e.nd, fun k h q => by
  obtain ⟨x, h1, h2⟩ := bind_inv h
  exact wi_seq (e.ok k h1 ⟨_, h2, q⟩)⟩
def sm62 (i : Int) : Bool := Nat.ble i.natAbs 4611686018427387903
theorem sm62_inv {i : Int} (h : sm62 i = true) : -(2 ^ 62) ≤ i ∧ i < 2 ^ 62 := by
  have h' := Nat.le_of_ble_eq_true h
  omega
def jRange1 (a : Exs) : Itx := ⟨fun K => iRng1 (a.ta K), fun env => (a.ev env).bind fun ds => match ds with
    | [.int j] => when (sm62 j) (some (rangeD 0 j.toNat))
    | _ => none, a.nd, fun {W n env ds Φ} k h q => by
  obtain ⟨ds, h1, h⟩ := bind_inv h
  split at h
  · rename_i j
    obtain ⟨h2, h3⟩ := when_inv h
    cases h3
    exact wi_range (a.ok k h1 ⟨j, rfl, (sm62_inv h2).1, (sm62_inv h2).2, q⟩)
  · cases h⟩
theorem wi_range2 {W : Wo} {n : Nat} {env : List E} {ta : TA} {Φ : List D → Nat → Prop} (q : WpA W ta n env fun ds n1 => ∃ i j : Int, ds = [.int i, .int j] ∧ (-(2 ^ 62) ≤ i ∧ i < 2 ^ 62 ∧ -(2 ^ 62) ≤ j ∧ j < 2 ^ 62) ∧ Φ (rangeD i (j - i).toNat) n1) : WpI W (iRng2 ta) n env Φ := fun σ stk vs H R w k =>
  q σ stk vs H _ w fun us ds n1 H1 q1 l w1 => by
    obtain ⟨i0, j, rfl, h1, q1⟩ := q1
    have t := w1.sees l
    cases t with
    | cons a b =>
      cases a
      cases b with
      | cons b c =>
        cases b
        cases c
        have hl : (rangeD i0 (j - i0).toNat).length = (j - i0).toNat := by simp [rangeD]
        refine ⟨i0, j, rfl, h1, k _ (rangeD i0 (j - i0).toNat) n1 H1 [] [] q1 rfl w1.pop.pop (ItD.up ⟨_, _, by rw [hl]; exact walk_range, fun _ _ => trivial, ?_⟩)⟩
        rintro i H x H' hi rl ⟨rfl, rfl⟩
        rw [hl] at hi
        exact ⟨.int (i0 + i), by simp [rangeD, hi], Same.refl _, fun M _ _ => .int _⟩
def jRange2 (a : Exs) : Itx := ⟨fun K => iRng2 (a.ta K), fun env => (a.ev env).bind fun ds => match ds with
    | [.int i, .int j] => when (sm62 i && sm62 j) (some (rangeD i (j - i).toNat))
    | _ => none, a.nd, fun {W n env ds Φ} k h q => by
  obtain ⟨ds, h1, h⟩ := bind_inv h
  split at h
  · rename_i i j
    obtain ⟨h2, h3⟩ := when_inv h
    cases h3
    rw [Bool.and_eq_true] at h2
    exact wi_range2 (a.ok k h1 ⟨i, j, rfl, ⟨(sm62_inv h2.1).1, (sm62_inv h2.1).2, (sm62_inv h2.2).1, (sm62_inv h2.2).2⟩, q⟩)
  · cases h⟩

/-! ## slices -/
structure SemSl where
  r : PySem.W.Frag → V → Option Int → Option Int → Hp → VK → Prop
  f : D → Option Int → Option Int → Option D
  ok : ∀ {W : Wo} {n : Nat} {x d : D} {lo hi : Option Int} {Φ : D → Nat → Prop}, f x lo hi = some d → Φ d n → Op1 W (fun v => r W.K v lo hi) n x Φ
def SemSl.or (a b : SemSl) : SemSl := ⟨fun K x lo hi H Q => a.r K x lo hi H Q ∨ b.r K x lo hi H Q, fun x lo hi => orElse_ (a.f x lo hi) (b.f x lo hi), fun h q env σ stk vs vx H Q w k => by
  rcases orElse_inv h with h | h
  · exact .inl (a.ok h q env σ stk vs vx H Q w k)
  · exact .inr (b.ok h q env σ stk vs vx H Q w k)⟩
def mSlT : SemSl := ⟨fun K => rSlP K, fun x lo hi => match x with
    | .tup xs => some (.tup (cutD xs lo hi))
    | _ => none, fun {W n x d lo hi Φ} h q env σ stk vs vx H Q w k => by
  cases x with
  | tup xs =>
    cases h
    obtain ⟨U, s, h, f, g⟩ := w.view1
    cases h with
    | tup a b =>
      refine ⟨_, _, rfl, same_sqT s a, fun hw => k _ _ n H q (f _ _ ?_), fun hw p o hp hd => ?_⟩
      · have e : cutD xs lo hi = xs := by
          unfold cutD
          rw [b.len] at hw
          rw [hw.1, hw.2]
          simp
        rw [e]
        exact .tup a b
      · obtain ⟨U', s', e, g⟩ := g p (.frz o (.tup (cutV _ lo hi))) hp
        exact k _ _ n _ q (g _ _ (.tup ⟨o, e, hd⟩ ((b.cut lo hi).mono s')))
  | _ => cases h⟩
def mSlL : SemSl := ⟨fun K => rSlL K, fun x lo hi => match x with
    | .lst xs => some (.lst (cutD xs lo hi))
    | _ => none, fun {W n x d lo hi Φ} h q env σ stk vs vx H Q w k => by
  cases x with
  | lst xs =>
    cases h
    obtain ⟨U, s, h, f, g⟩ := w.view1
    cases h with
    | lst a b =>
      refine ⟨_, _, rfl, .inl (.inl (s _ _ a)), fun p hp => ?_⟩
      obtain ⟨U', s', e, g⟩ := g p (.lst (cutV _ lo hi)) hp
      exact k _ _ n _ q (g _ _ (.lst e ((b.cut lo hi).mono s')))
  | _ => cases h⟩
def mSlS : SemSl := ⟨fun _ => rSlS, fun x lo hi => match x with
    | .str z => when (szOk z.length) (some (.str (cutS z lo hi)))
    | _ => none, fun {W n x d lo hi Φ} h q => by
  cases x with
  | str z =>
    obtain ⟨h1, h2⟩ := when_inv h
    cases h2
    exact op1_pure (fun vx H Q h k => by cases h; exact ⟨_, rfl, szOk_le h1, k⟩) (fun _ _ => .str _) q
  | _ => cases h⟩
def mSl : SemSl := mSlT.or (mSlL.or mSlS)
def xSl (s : SemSl) (e : Ex) (lo hi : Po) : Ex := ⟨fun K => tSl (s.r K) (e.te K) (lo.to K) (hi.to K), fun env => (e.ev env).bind fun x => (lo.ev env).bind fun l => (hi.ev env).bind fun h => s.f x l h, two e.nd (two lo.nd hi.nd), fun {W n env d Φ} k h q σ stk vs H Q w kk => by
  obtain ⟨x, h1, h⟩ := bind_inv h
  obtain ⟨l, h2, h⟩ := bind_inv h
  obtain ⟨u, h3, h⟩ := bind_inv h
  refine e.ok (Φ := fun d m => d = x ∧ m = n) k.1 h1 ⟨rfl, rfl⟩ σ stk vs H _ w fun v d n1 H1 q1 w1 => ?_
  obtain ⟨rfl, rfl⟩ := q1
  refine lo.ok (Φ := fun d m => d = l ∧ m = n1) k.2.1 h2 ⟨rfl, rfl⟩ σ _ _ H1 _ w1 fun o n2 H2 q2 w2 => ?_
  obtain ⟨rfl, rfl⟩ := q2
  refine hi.ok (Φ := fun d m => d = u ∧ m = n2) k.2.2 h3 ⟨rfl, rfl⟩ σ _ _ H2 _ w2 fun o3 n3 H3 q3 w3 => ?_
  obtain ⟨rfl, rfl⟩ := q3
  exact s.ok h q env σ stk vs v H3 Q w3 kk⟩
def xRevT (e : Ex) : Ex := ⟨fun K => tRevT K (e.te K), fun env => (e.ev env).bind fun x => match x with
    | .tup xs => some (.tup xs.reverse)
    | _ => none, e.nd, fun {W n env d Φ} k h q => by
  obtain ⟨x, h1, h2⟩ := bind_inv h
  cases x with
  | tup xs => cases h2; exact wp_revT (e.ok k h1 ⟨xs, rfl, q⟩)
  | _ => cases h2⟩

/-! ## built-ins -/
def mN1 (r : PySem.W.Frag → List V → Hp → VK → Prop) (f : D → Option D) (ok : ∀ {W : Wo} {n : Nat} {x d : D} {Φ : D → Nat → Prop}, f x = some d → Φ d n → OpN W (r W.K) n [x] Φ) : SemN := ⟨r, fun xs => match xs with
    | [x] => f x
    | _ => none, fun {W n xs d Φ} h q => by
  split at h
  · exact ok h q
  · cases h⟩
def mLen : SemN := mN1 (fun K xs H Q => ∃ x n, xs = [x] ∧ LenV K x H n ∧ Q (.int n) H) (fun x => match x with
    | .str z => when (szOk z.length) (some (.int z.length))
    | .tup xs => some (.int xs.length)
    | .lst xs => some (.int xs.length)
    | .lsq xs => some (.int xs.length)
    | _ => none) fun {W n x d Φ} h q => by
  cases x with
  | str z => obtain ⟨h1, h2⟩ := when_inv h; cases h2; exact op_len_s (szOk_le h1) q
  | tup xs => cases h; exact op_len_t q
  | lst xs => cases h; exact op_len_l q
  | lsq xs => cases h; exact op_len_q q
  | _ => cases h
def mIsi : SemN := ⟨fun K => rIsi K, fun xs => match xs with
    | [x, .ty n] => when (!isTy x && ["int", "bool", "str", "tuple", "list", "dict"].elem n) (some (.bl (instD x n)))
    | _ => none, fun {W n xs d Φ} h q => by
  split at h
  · obtain ⟨h1, h2⟩ := when_inv h
    cases h2
    rw [Bool.and_eq_true, Bool.not_eq_true'] at h1
    exact op_isi h1.1 (by simpa using h1.2) q
  · cases h⟩
def bools : List D → Option (List Bool)
  | [] => some []
  | .bl b :: ds => (bools ds).bind fun bs => some (b :: bs)
  | _ => none
theorem bools_inv : ∀ {ds : List D} {bs : List Bool}, bools ds = some bs → ds = bs.map D.bl
  | [], bs, h => by cases h; rfl
  | d :: ds, bs, h => by
    cases d with
    | bl b =>
      obtain ⟨cs, h1, h2⟩ := bind_inv (o := bools ds) (f := fun bs => some (b :: bs)) h
      cases h2
      rw [bools_inv h1]
      rfl
    | _ => cases h
def mAll : SemN := mN1 (fun K => rAll K) (fun x => match x with
    | .lst xs => (bools xs).bind fun bs => some (.bl (bs.all id))
    | _ => none) fun {W n x d Φ} h q => by
  cases x with
  | lst xs => obtain ⟨bs, h1, h2⟩ := bind_inv h; cases h2; cases bools_inv h1; exact op_all q
  | _ => cases h
def mAny : SemN := mN1 (fun K => rAny K) (fun x => match x with
    | .lst xs => (bools xs).bind fun bs => some (.bl (bs.any id))
    | _ => none) fun {W n x d Φ} h q => by
  cases x with
  | lst xs => obtain ⟨bs, h1, h2⟩ := bind_inv h; cases h2; cases bools_inv h1; exact op_any q
  | _ => cases h
def mRepr : SemN := mN1 (fun K => rRepr K) (fun x => when (canShow x) (some (.str (py x).shown))) fun {W n x d Φ} h q => by
  obtain ⟨h1, h2⟩ := when_inv h
  cases h2
  exact op_repr h1 q
def mTuple : SemN := mN1 (fun K => rTupP K) (fun x => match x with
    | .lst xs => some (.tup xs)
    | .tup xs => some (.tup xs)
    | _ => none) fun {W n x d Φ} h q => by
  cases x with
  | lst xs => cases h; exact op_tupleL q
  | tup xs =>
    cases h
    exact opN1 fun env σ stk vs vx H Q w k => by
      obtain ⟨U, s, h, f, g⟩ := w.view1
      cases h with
      | tup a b => exact ⟨_, _, rfl, .inr ⟨same_sqT s a, k _ _ n H q (f _ _ (.tup a b))⟩⟩
  | _ => cases h
def mList : SemN := mN1 (fun K xs H Q => ∃ p ys, xs = [.ref p] ∧ (SqL K H p ys ∨ SqT K H p ys) ∧ ∀ l, H l = none → Q (.ref l) (upd H l (.lst ys))) (fun x => match x with
    | .tup xs => some (.lst xs)
    | .lst xs => some (.lst xs)
    | _ => none) fun {W n x d Φ} h q => by
  cases x with
  | tup xs => cases h; exact op_listT q
  | lst xs =>
    cases h
    exact opN1 fun env σ stk vs vx H Q w k => by
      obtain ⟨U, s, h, f, g⟩ := w.view1
      cases h with
      | lst a b =>
        refine ⟨_, _, rfl, .inl (.inl (.inl (s _ _ a))), fun p hp => ?_⟩
        obtain ⟨U', s', e, g⟩ := g p (.lst _) hp
        exact k _ _ n _ q (g _ _ (.lst e (b.mono s')))
  | _ => cases h
def mAbs : SemN := mN1 (fun _ xs H Q => ∃ i, xs = [.int i] ∧ Q (.int (if i < 0 then -i else i)) H) (fun x => match x with
    | .int i => some (.int (if i < 0 then -i else i))
    | _ => none) fun {W n x d Φ} h q => by
  cases x with
  | int i => cases h; exact opN1 (op1_pure (fun vx H Q h k => by cases h; exact ⟨_, rfl, k⟩) (fun _ _ => .int _) q)
  | _ => cases h
def mInt : SemN := mN1 (fun _ xs H Q => (∃ i, xs = [.int i] ∧ Q (.int i) H) ∨ ∃ k, xs = [.bl k] ∧ Q (.int (if k then 1 else 0)) H) (fun x => match x with
    | .int i => some (.int i)
    | .bl b => some (.int (if b then 1 else 0))
    | _ => none) fun {W n x d Φ} h q => by
  cases x with
  | int i => cases h; exact opN1 (op1_pure (fun vx H Q h k => by cases h; exact .inl ⟨_, rfl, k⟩) (fun _ _ => .int _) q)
  | bl b => cases h; exact opN1 (op1_pure (fun vx H Q h k => by cases h; exact .inr ⟨_, rfl, k⟩) (fun _ _ => .int _) q)
  | _ => cases h
def wholes : List D → Option (List Int)
  | [] => some []
  | .int b :: ds => (wholes ds).bind fun bs => some (b :: bs)
  | _ => none
theorem wholes_inv : ∀ {ds : List D} {bs : List Int}, wholes ds = some bs → ds = bs.map D.int
  | [], bs, h => by cases h; rfl
  | d :: ds, bs, h => by
    cases d with
    | int b =>
      obtain ⟨cs, h1, h2⟩ := bind_inv (o := wholes ds) (f := fun bs => some (b :: bs)) h
      cases h2
      rw [wholes_inv h1]
      rfl
    | _ => cases h
def mSum : SemN := mN1 (fun K => rSum K) (fun x => match x with
    | .lst xs => (wholes xs).bind fun bs => some (.int bs.sum)
    | _ => none) fun {W n x d Φ} h q => by
  cases x with
  | lst xs =>
    obtain ⟨bs, h1, h2⟩ := bind_inv h; cases h2; cases wholes_inv h1
    exact opN1 (op1_pure (fun vx H Q h k => by
      cases h with
      | lst a b => exact ⟨_, bs, rfl, .inl (.inl (by rw [b.ints] at a; exact a)), k⟩) (fun _ _ => .int _) q)
  | _ => cases h
def mMax2 : SemN := ⟨fun _ xs H Q => ∃ i j, xs = [.int i, .int j] ∧ Q (.int (if j > i then j else i)) H, fun xs => match xs with
    | [.int i, .int j] => some (.int (if j > i then j else i))
    | _ => none, fun {W n xs d Φ} h q => by
  split at h
  · cases h; exact opN2 (op2_pure (fun vx vy H Q h1 h2 k => by cases h1; cases h2; exact ⟨_, _, rfl, k⟩) (fun _ _ => .int _) q)
  · cases h⟩
def mMin2 : SemN := ⟨fun _ xs H Q => ∃ i j, xs = [.int i, .int j] ∧ Q (.int (if j < i then j else i)) H, fun xs => match xs with
    | [.int i, .int j] => some (.int (if j < i then j else i))
    | _ => none, fun {W n xs d Φ} h q => by
  split at h
  · cases h; exact opN2 (op2_pure (fun vx vy H Q h1 h2 k => by cases h1; cases h2; exact ⟨_, _, rfl, k⟩) (fun _ _ => .int _) q)
  · cases h⟩
section
variable {X : Cx} {K : PySem.W.Frag}
theorem r_sl (h : X.K = K) : SlR X (mSl.r K) := by subst h; exact (k_slP rfl).or (sl_list.or sl_str)
theorem r_len (h : X.K = K) : CallR X (.builtin "len") (mLen.r K) := k_len h
theorem r_isi (h : X.K = K) : CallR X (.builtin "isinstance") (mIsi.r K) := k_isi h
theorem r_all (h : X.K = K) (hc : X.calm = true) : CallR X (.builtin "all") (mAll.r K) := k_all h hc
theorem r_any (h : X.K = K) (hc : X.calm = true) : CallR X (.builtin "any") (mAny.r K) := k_any h hc
theorem r_repr (h : X.K = K) (gu : X.A.guards = some []) (hu : X.A.units + 200 < cLine) (hb : SysB X.base) : CallR X (.builtin "repr") (mRepr.r K) := k_repr h gu hu hb
theorem r_tuple (h : X.K = K) : CallR X (.type "tuple") (mTuple.r K) := k_tuple h
theorem r_list (h : X.K = K) : CallR X (.type "list") (mList.r K) := k_list h
theorem r_abs : CallR X (.builtin "abs") (mAbs.r K) := call_abs
theorem r_int : CallR X (.type "int") (mInt.r K) := call_int1
theorem r_sum (h : X.K = K) (hc : X.calm = true) : CallR X (.builtin "sum") (mSum.r K) := by subst h; exact cr_sum hc
theorem r_max2 (hc : X.calm = true) : CallR X (.builtin "max") (mMax2.r K) := call_max2 hc
theorem r_min2 (hc : X.calm = true) : CallR X (.builtin "min") (mMin2.r K) := call_min2 hc
end
end FR
namespace FR
open PySem PySem.Spec PyProof.Rows L2
variable [TheW]

/-! ## zip of two lists -/
theorem itD_zipL {K : PySem.W.Frag} {a1 b1 : Addr} {xs ys : List D} : ItD K (Itz K a1 b1) (zipD xs ys) [.lst xs, .lst ys] [.ref a1, .ref b1] := ⟨by
  have hl : (zipD xs ys).length = min xs.length ys.length := by simp [zipD]
  refine ⟨fun H => ∃ ws zs, SqL K H a1 ws ∧ ws.length = xs.length ∧ SqL K H b1 zs ∧ zs.length = ys.length, fun i H v H' => ∃ T x y, v = .ref T ∧ H T = Option.none ∧ H' = upd H T (.tup [x, y]) ∧ (∀ xs, SqL K H a1 xs → xs[i]? = some x) ∧ ∀ ys, SqL K H b1 ys → ys[i]? = some y, ⟨?_, ?_, ?_⟩, ?_, ?_⟩
  · rintro i H hi ⟨ws, zs, h1, h2, h3, h4⟩
    exact ⟨ws, zs, ws[i]'(by omega), zs[i]'(by omega), h1, h3, by simp [show i < ws.length by omega], by simp [show i < zs.length by omega]⟩
  · rintro H ⟨ws, zs, h1, h2, h3, h4⟩
    exact ⟨ws, zs, h1, h3, by omega⟩
  · rintro i H x H' hi ⟨ws, zs, h1, h2, h3, h4⟩ y
    exact y
  · intro H rl
    cases rl with
    | cons r r2 =>
      cases r2 with
      | cons r2 _ =>
        cases r with
        | lst a b =>
          cases r2 with
          | lst c d => exact ⟨_, _, .inl (.inl a), b.len, .inl (.inl c), d.len⟩
  · rintro i H v H' hi rl ⟨T, x, y, rfl, hT, rfl, y1, y2⟩
    have hx : i < xs.length := by omega
    have hy : i < ys.length := by omega
    refine ⟨.tpk [xs[i], ys[i]], by unfold zipD; rw [List.getElem?_map, List.getElem?_eq_getElem (by simp; omega), List.getElem_zip]; rfl, same_new hT, fun M hM rl2 => ?_⟩
    cases rl2 with
    | cons r r2 =>
      cases r2 with
      | cons r2 _ =>
        cases r with
        | lst a b =>
          cases r2 with
          | lst c d =>
            obtain ⟨u, e1, e2⟩ := b.get (i := i) (x := xs[i]) (by simp [hx])
            obtain ⟨u2, f1, f2⟩ := d.get (i := i) (x := ys[i]) (by simp [hy])
            have e3 := y1 _ (.inl (.inl (era_sub _ _ _ _ a)))
            have f3 := y2 _ (.inl (.inl (era_sub _ _ _ _ c)))
            rw [e1] at e3
            rw [f1] at f3
            cases e3
            cases f3
            have nT : T ∉ M := fun z => hM T z hT
            refine .tpk (.inl (era_of upd_same nT)) (.cons (e2.mono ?_) (.cons (f2.mono ?_) .nil))
            all_goals exact era_mono _ (same_new hT)⟩
theorem wi_zipL {W : Wo} {n : Nat} {env : List E} {ta : TA} {Φ : List D → Nat → Prop} (q : WpA W ta n env fun ds n1 => ∃ xs ys, ds = [.lst xs, .lst ys] ∧ Φ (zipD xs ys) n1) : WpI W (RZ.iZipA W.K ta) n env Φ := fun σ stk vs H R w k =>
  q σ stk vs H _ w fun us ds n1 H1 q1 l w1 => by
    obtain ⟨xs, ys, rfl, q1⟩ := q1
    have t := w1.sees l
    cases t with
    | cons a b =>
      cases b with
      | cons b c =>
        cases c
        cases a with
        | @lst a1 us1 _ a2 a3 =>
          cases b with
          | @lst b1 us2 _ b2 b3 =>
            exact ⟨a1, b1, us1, us2, rfl, .inl ⟨.inl (.inl a2), .inl (.inl b2), k _ (zipD xs ys) n1 H1 [.lst xs, .lst ys] [.ref a1, .ref b1] q1 rfl w1 itD_zipL.up⟩⟩
def jZip (a : Exs) : Itx := ⟨fun K => RZ.iZipA K (a.ta K), fun env => (a.ev env).bind fun ds => match ds with
    | [.tup xs, .tup ys] => some (zipD xs ys)
    | [.lst xs, .lst ys] => some (zipD xs ys)
    | _ => none, a.nd, fun {W n env ds Φ} k h q => by
  obtain ⟨ds, h1, h⟩ := bind_inv h
  split at h
  · cases h; exact wi_zipT (a.ok k h1 ⟨_, _, rfl, q⟩)
  · cases h; exact wi_zipL (a.ok k h1 ⟨_, _, rfl, q⟩)
  · cases h⟩

end FR
namespace FR
open PySem PySem.Spec PyProof.Rows L2
variable [TheW]
/-! ## owned things looked at -/
def frzE : E → E
  | .own x => .d x
  | e => e
mutual
/-- nothing in it can be changed -/
def still : D → Bool
  | .tup xs => stillL xs
  | .non => true
  | .bl _ => true
  | .int _ => true
  | .str _ => true
  | .ty _ => true
  | .lst _ => false
  | .lsq _ => false
  | .dct _ => false
  | .dcT _ => false
  | .ins _ _ _ _ => false
  | .tpk _ => false
def stillL : List D → Bool
  | [] => true
  | x :: xs => still x && stillL xs
end
/-- an address that is no tuple's -/
def NoTup (K : PySem.W.Frag) (H : Hp) (p : Addr) : Prop := ∀ xs, (H p = some (.tup xs) ∨ ∃ o, H p = some (.frz o (.tup xs))) → False
mutual
theorem Rp.hide {K : PySem.W.Frag} {H : Hp} {M M' : List Addr} (h : ∀ p ∈ M', NoTup K H p) : ∀ (d : D) {v : V}, Rp K (era H M) v d → still d = true → Rp K (era H (M ++ M')) v d
  | .tup xs, v, r, e => by
    rw [still] at e
    cases r with
    | tup hs r =>
      refine .tup ?_ (RpL.hide h xs r e)
      obtain ⟨o, hs, hd⟩ := hs
      obtain ⟨h1, h2⟩ := era_some hs
      refine ⟨o, era_of h1 fun z => ?_, hd⟩
      rcases List.mem_append.mp z with z | z
      · exact h2 z
      · exact h _ z _ (.inr ⟨o, h1⟩)
  | .non, v, r, e => by cases r; exact .non
  | .bl b, v, r, e => by cases r; exact .bl b
  | .int b, v, r, e => by cases r; exact .int b
  | .str b, v, r, e => by cases r; exact .str b
  | .ty b, v, r, e => by cases r; exact .ty b
  | .lst _, v, r, e => by rw [still] at e; cases e
  | .lsq _, v, r, e => by rw [still] at e; cases e
  | .dct _, v, r, e => by rw [still] at e; cases e
  | .dcT _, v, r, e => by rw [still] at e; cases e
  | .ins _ _ _ _, v, r, e => by rw [still] at e; cases e
  | .tpk _, v, r, e => by rw [still] at e; cases e
theorem RpL.hide {K : PySem.W.Frag} {H : Hp} {M M' : List Addr} (h : ∀ p ∈ M', NoTup K H p) : ∀ (d : List D) {v : List V}, RpL K (era H M) v d → stillL d = true → RpL K (era H (M ++ M')) v d
  | [], v, r, e => by cases r; exact .nil
  | x :: xs, v, r, e => by
    rw [stillL, Bool.and_eq_true] at e
    cases r with
    | cons a b => exact .cons (Rp.hide h x a e.1) (RpL.hide h xs b e.2)
end

theorem OwR.noTup {K : PySem.W.Frag} {U H : Hp} {p : Addr} {o : HO} {x : D} (h : OwR K U p o x) (e : H p = some o) : NoTup K H p := fun xs z => by
  rcases z with z | ⟨u, z⟩
  · rw [e] at z; cases h <;> cases z
  · rw [e] at z; cases h <;> cases z
/-- the environment with what is owned shown -/
theorem EnvOk.frz {W W' : Wo} {U U' H : Hp} (hK : W'.K = W.K) (hP : W'.P = W.P) (eu : Same U U') : ∀ {env : List E} {σ : L2.St} {M : List Addr}, EnvOk W U H env σ M → (∀ p ∈ M, ∀ o, H p = some o → U' p = some o) → EnvOk W' U' H (env.map frzE) σ []
  | [], [], [], _, _ => trivial
  | [], [], _ :: _, h, _ => h.elim
  | [], _ :: _, _, h, _ => h.elim
  | .any :: es, [], _, h, _ => h.elim
  | .any :: es, _ :: σ, M, h, f => EnvOk.frz (env := es) (σ := σ) hK hP eu h f
  | .d x :: es, [], _, h, _ => h.elim
  | .d x :: es, o :: σ, M, h, f => ⟨by obtain ⟨v, e, r⟩ := h.1; exact ⟨v, e, by rw [hK]; exact r.mono eu⟩, EnvOk.frz (env := es) (σ := σ) hK hP eu h.2 f⟩
  | .own xs :: es, [], _, h, _ => h.elim
  | .own xs :: es, _ :: _, [], h, _ => h.elim
  | .own xs :: es, o :: σ, p :: M, h, f => ⟨by obtain ⟨vs, e, q, r⟩ := h.1; exact ⟨_, e, by rw [hK]; exact (r.mono eu).rp (f p (by simp) _ q)⟩, EnvOk.frz (env := es) (σ := σ) hK hP eu h.2 fun q hq => f q (List.mem_cons_of_mem _ hq)⟩
  | .pot :: es, [], _, h, _ => h.elim
  | .pot :: es, o :: σ, M, h, f => ⟨by rw [hP]; exact h.1, EnvOk.frz (env := es) (σ := σ) hK hP eu h.2 f⟩
theorem EnvOk.noTup {W : Wo} {U H : Hp} : ∀ {env : List E} {σ : L2.St} {M : List Addr}, EnvOk W U H env σ M → ∀ p ∈ M, ∃ o x, H p = some o ∧ OwR W.K U p o x
  | [], [], [], _, _, hp => by cases hp
  | [], [], _ :: _, h, _, _ => h.elim
  | [], _ :: _, _, h, _, _ => h.elim
  | .any :: es, [], _, h, _, _ => h.elim
  | .any :: es, _ :: σ, M, h, p, hp => EnvOk.noTup (env := es) (σ := σ) h p hp
  | .d x :: es, [], _, h, _, _ => h.elim
  | .d x :: es, o :: σ, M, h, p, hp => EnvOk.noTup (env := es) (σ := σ) h.2 p hp
  | .own xs :: es, [], _, h, _, _ => h.elim
  | .own xs :: es, _ :: _, [], h, _, _ => h.elim
  | .own xs :: es, o :: σ, q :: M, h, p, hp => by
    rcases List.mem_cons.mp hp with rfl | hp
    · obtain ⟨vs, e, q, r⟩ := h.1
      exact ⟨vs, xs, q, r⟩
    · exact EnvOk.noTup (env := es) (σ := σ) h.2 p hp
  | .pot :: es, [], _, h, _, _ => h.elim
  | .pot :: es, o :: σ, M, h, p, hp => EnvOk.noTup (env := es) (σ := σ) h.2 p hp
theorem wp_peek {W : Wo} {n : Nat} {env : List E} {te : TE} {Φ : D → Nat → Prop} (h : ∀ W' : Wo, W'.K = W.K → Wp W' te n (env.map frzE) fun d n' => still d = true ∧ Φ d n') : Wp W te n env Φ := fun σ stk vs H Q w k => by
  have hid := w.hidH
  obtain ⟨kp, hh, pp, M1, M2, a, nd, b, c⟩ := w
  have n0 : ∀ p ∈ M1, p ∉ W.M0 := fun p hp z => hh p z (a p (List.mem_append_left _ hp)).1
  have n2 : ∀ p ∈ M1, p ∉ M2 := fun p hp z => (List.nodup_append.mp nd).2.2 p hp p z rfl
  have hidM : ∀ p ∈ W.M0 ++ M2, H p ≠ Option.none := fun p hp => by
    rcases List.mem_append.mp hp with z | z
    · exact hid p z
    · exact (a p (List.mem_append_right _ z)).2
  have eu : Same (era H (W.M0 ++ (M1 ++ M2))) (era H (W.M0 ++ M2)) := era_less fun p hp => by
    rcases List.mem_append.mp hp with z | z
    · exact List.mem_append_left _ z
    · exact List.mem_append_right _ (List.mem_append_right _ z)
  have w' : Wd ⟨W.K, W.P, W.M0 ++ M2, H⟩ n (env.map frzE) σ [] [] H := by
    refine ⟨fun b o _ e => e, hidM, fun p hp => ⟨List.mem_append_left _ (pp p hp).1, (pp p hp).2⟩, [], [], fun p hp => (by cases hp), List.nodup_nil, ?_, trivial⟩
    show EnvOk _ (era H ((W.M0 ++ M2) ++ ([] ++ []))) H _ σ []
    rw [List.append_nil, List.append_nil]
    refine EnvOk.frz (W := W) (W' := ⟨W.K, W.P, W.M0 ++ M2, H⟩) rfl rfl eu b fun p hp o e => era_of e fun z => ?_
    rcases List.mem_append.mp z with z | z
    · exact n0 p hp z
    · exact n2 p hp z
  refine h ⟨W.K, W.P, W.M0 ++ M2, H⟩ rfl σ [] [] H Q w' fun v d n' H' hq w2 => k v d n' H' hq.2 ?_
  obtain ⟨kp2, _, pp2, M1', M2', a2, _, _, c2⟩ := w2
  obtain ⟨⟨v', e, r⟩, _⟩ := c2
  cases e
  have up : ∀ p o, p ∉ W.M0 → H p = some o → H' p = some o := fun p o hp e => kp2 p o (fun z => hp (pp p z).1) e
  have es : Same (era H (W.M0 ++ (M1 ++ M2))) (era H' (W.M0 ++ (M1 ++ M2))) := fun p o e => by
    obtain ⟨e1, e2⟩ := era_some e
    exact era_of (up p o (fun z => e2 (List.mem_append_left _ z)) e1) e2
  have n02 : ∀ p ∈ M1 ++ M2, p ∉ W.M0 := fun p hp z => hh p z (a p hp).1
  have r2 : Rp W.K (era H' (W.M0 ++ M2)) v d := r.mono (era_less fun p hp => List.mem_append_left _ hp)
  have nt : ∀ p ∈ M1, NoTup W.K H' p := fun p hp => by
    obtain ⟨o, x, e1, e2⟩ := b.noTup p hp
    exact e2.noTup (up p o (n0 p hp) e1)
  have r3 := (Rp.hide nt d r2 hq.1).mono (era_less (M' := W.M0 ++ (M1 ++ M2)) fun p hp => by
    simp only [List.mem_append] at hp ⊢
    rcases hp with z | z | z
    · exact .inl (.inl z)
    · exact .inr z
    · exact .inl (.inr z))
  refine ⟨fun b o nb e => kp2 b o nb (kp b o nb e), hh, fun p hp => ⟨(pp p hp).1, (pp2 p hp).2⟩, M1, M2, fun p hp => ⟨(a p hp).1, fun z => ?_⟩, nd, EnvOk.mono2 es (fun q hq o e => up q o (n02 q (List.mem_append_left _ hq)) e) b, ⟨v, rfl, r3⟩, EnvOk.mono2 es (fun q hq o e => up q o (n02 q (List.mem_append_right _ hq)) e) c⟩
  cases e : H p with
  | none => exact (a p hp).2 e
  | some o => rw [up p o (n02 p hp) e] at z; cases z
def xPeek (e : Ex) : Ex := ⟨fun K => e.te K, fun env => (e.ev (env.map frzE)).bind fun d => when (still d) (some d), e.nd, fun {W n env d Φ} k h q => by
  obtain ⟨x, h1, h2⟩ := bind_inv h
  obtain ⟨h2, h3⟩ := when_inv h2
  cases h3
  refine wp_peek fun W' hK => ?_
  rw [← hK]
  exact e.ok (by rw [hK]; exact k) h1 ⟨h2, q⟩⟩
def tPeek (t : Ts) : Ts := ⟨fun K => t.tt K, fun env => t.ev (env.map frzE), t.nd, fun {W n env d Φ} k h q σ stk vs H Q w kk => by
  have hp := wp_peek (W := W) (n := n) (env := env) (te := fun σ H Q => t.tt W.K σ H fun b H' => Q (.bl b) H') (Φ := fun d' n' => d' = .bl d ∧ n' = n) fun W' hK => by
    intro σ stk vs H Q w k2
    have := t.ok (W := W') (n := n) (env := env.map frzE) (b := d) (Φ := fun b m => b = d ∧ m = n) (by rw [hK]; exact k) h ⟨rfl, rfl⟩ σ stk vs H (fun b H' => Q (.bl b) H') w fun b n' H' hb w' => by
      obtain ⟨rfl, rfl⟩ := hb
      exact k2 _ _ _ _ ⟨rfl, rfl, rfl⟩ (w'.push fun U _ => .bl _)
    rw [hK] at this
    exact this
  exact hp σ stk vs H (fun v H' => match v with
    | .bl b => Q b H'
    | _ => False) w (fun v d' n' H' hd w' => by
    obtain ⟨rfl, rfl⟩ := hd
    have t := w'.top
    cases t
    exact kk _ _ _ q w'.pop)⟩
end FR
namespace FR
open PySem PySem.Spec PyProof.Rows L2
variable [TheW]

/-! ## statements on owned things -/
def sNever : Stx := ⟨fun _ => tNever, fun _ => none, tru, fun _ h _ => by cases h⟩
/-- what is owned at these places is shown from now on, and changed no more -/
def fzAt (env : List E) : List Nat → List E
  | [] => env
  | i :: is => fzAt (match env[i]? with
    | some (.own x) => env.set i (.d x)
    | _ => env) is
theorem ws_fz {W : Wo} {n : Nat} {t : TS} {O : Out} : ∀ {is : List Nat} {env : List E}, WpS W t n (fzAt env is) O → WpS W t n env O
  | [], env, h => h
  | i :: is, env, h => by
    have h2 := ws_fz (is := is) h
    cases e : env[i]? with
    | none => rw [e] at h2; exact h2
    | some x =>
      rw [e] at h2
      cases x with
      | own y => exact ws_freeze e h2
      | _ => exact h2
def sFz (is : List Nat) (s : Stx) : Stx := ⟨fun K => s.ts K, fun env => s.ev (fzAt env is), s.nd, fun k h q => ws_fz (s.ok k h q)⟩
def ownAt : Option E → Option D
  | some (.own x) => some x
  | _ => none
theorem ownAt_inv {o : Option E} {x : D} (h : ownAt o = some x) : o = some (.own x) := by
  cases o with
  | none => cases h
  | some e => cases e <;> first | (cases h; rfl) | cases h
def freeAt (env : List E) (i : Nat) : Bool := Nat.blt i env.length && (ownAt env[i]?).isNone
theorem freeAt_inv {env : List E} {i : Nat} (h : freeAt env i = true) : i < env.length ∧ ∀ zs, env[i]? ≠ some (.own zs) := by
  unfold freeAt at h
  rw [Bool.and_eq_true] at h
  refine ⟨Nat.le_of_ble_eq_true h.1, fun zs e => ?_⟩
  rw [e] at h
  cases h.2
/-- the place is let go first -/
def unown (env : List E) (i : Nat) : List E := match env[i]? with
  | some (.own x) => env.set i (.d x)
  | _ => env
theorem ws_unown {W : Wo} {n : Nat} {t : TS} {O : Out} {i : Nat} {env : List E} (h : WpS W t n (unown env i) O) : WpS W t n env O := by
  unfold unown at h
  cases e : env[i]? with
  | none => rw [e] at h; exact h
  | some x =>
    rw [e] at h
    cases x with
    | own y => exact ws_freeze e h
    | _ => exact h
def sOwn (i : Nat) : Stx := ⟨fun _ => tAsg (tLst tNil) (gName i), fun env => when (freeAt (unown env i) i) (some (.nx ((unown env i).set i (.own (.lst []))))), tru, fun _ h q => by
  obtain ⟨h1, h2⟩ := when_inv h
  cases h2
  exact ws_unown (ws_own (freeAt_inv h1).1 (freeAt_inv h1).2 q)⟩
/-- a new thing, owned -/
structure Fx where
  te : PySem.W.Frag → TE
  ev : List E → Option D
  nd : PySem.W.Frag → Prop
  ok : ∀ {W : Wo} {n : Nat} {env : List E} {d : D} {Φ : D → Nat → Prop}, nd W.K → ev env = some d → Φ d n → WpF W (te W.K) n env Φ
def fLst (a : Exs) : Fx := ⟨fun K => tLst (a.ta K), fun env => (a.ev env).bind fun xs => when (szOk xs.length) (some (.lst xs)), a.nd, fun k h q => by
  obtain ⟨x, h1, h⟩ := bind_inv h
  obtain ⟨h2, h⟩ := when_inv h
  cases h
  exact wf_lst (a.ok k h1 ⟨szOk_le h2, q⟩)⟩
def fLc (it : Itx) (g : Tgx) (t : Ts) (e : Ex) (sl : List Nat) (hL : (g.L.all fun i => sl.elem i) = true) : Fx := ⟨fun K => tLc (it.ti K) (g.tg K) (t.tt K) (e.te K) sl,
  fun env => (it.ev env).bind fun ds => when (szOk ds.length) ((goLc g t e (wipeE (env.map hideE) sl) ds).bind fun ys => some (.lst ys)), two it.nd (two t.nd e.nd), fun {W n env d Φ} k h q => by
  obtain ⟨ds, h1, h⟩ := bind_inv h
  obtain ⟨h2, h⟩ := when_inv h
  obtain ⟨ys, h3, h⟩ := bind_inv h
  cases h
  have hL' : ∀ i ∈ g.L, i ∈ sl := fun i hi => by
    have := List.all_eq_true.mp hL i hi
    simpa using this
  refine wf_lc (L := g.L) hL' (it.ok k.1 h1 ⟨fun i acc m => m = n ∧ ∃ rest, goLc g t e (wipeE (env.map hideE) sl) (ds.drop i) = some rest ∧ acc ++ rest = ys, ⟨rfl, ys, h3, rfl⟩, szOk_le h2, ?_, ?_⟩)
  · rintro i d acc m hd ⟨rfl, rest, hr, rfl⟩
    have hlt := (List.getElem?_eq_some_iff.mp hd).1
    have e1 : ds.drop i = d :: ds.drop (i + 1) := by
      rw [List.drop_eq_getElem_cons hlt]
      congr 1
      exact (List.getElem?_eq_some_iff.mp hd).2
    rw [e1] at hr
    obtain ⟨env2, h4, hr⟩ := bind_inv hr
    obtain ⟨b, h5, hr⟩ := bind_inv hr
    refine g.ok h4 (t.ok k.2.1 h5 ?_)
    cases b with
    | true =>
      obtain ⟨y, h6, hr⟩ := bind_inv hr
      obtain ⟨ys2, h7, hr⟩ := bind_inv hr
      cases hr
      exact e.ok k.2.2 h6 ⟨rfl, ys2, h7, by simp⟩
    | false => exact ⟨rfl, rest, hr, rfl⟩
  · rintro acc m ⟨rfl, rest, hr, rfl⟩ _
    rw [List.drop_length] at hr
    cases hr
    rw [List.append_nil] at q
    exact q⟩
def fListT (a : Exs) : Fx := ⟨fun K => tCB (mList.r K) (a.ta K), fun env => (a.ev env).bind fun ds => match ds with
    | [.tup xs] => some (.lst xs)
    | _ => none, a.nd, fun {W n env d Φ} k h q => by
  obtain ⟨x, h1, h⟩ := bind_inv h
  split at h
  · cases h; exact wf_listT (a.ok k h1 ⟨_, rfl, q⟩)
  · cases h⟩
def sSetF (i : Nat) (e : Fx) : Stx := ⟨fun K => tAsg (e.te K) (gName i), fun env => when (freeAt (unown env i) i) ((e.ev (unown env i)).bind fun d => some (.nx ((unown env i).set i (.own d)))), e.nd, fun k h q => by
  obtain ⟨h1, h2⟩ := when_inv h
  obtain ⟨d, h3, h4⟩ := bind_inv h2
  cases h4
  exact ws_unown (ws_setF (freeAt_inv h1).1 (freeAt_inv h1).2 (e.ok k h3 q))⟩
def lstOf : D → Option (List D)
  | .lst xs => some xs
  | _ => none
theorem lstOf_inv {x : D} {xs : List D} (h : lstOf x = some xs) : x = .lst xs := by
  cases x <;> first | (cases h; rfl) | cases h
def sAppend (i : Nat) (e : Ex) : Stx := ⟨fun K => tDrop (tBM K "list" rAppend (tVar i) (tCons (e.te K) tNil)), fun env => (ownAt env[i]?).bind fun x => (lstOf x).bind fun xs => (e.ev env).bind fun y => when (Nat.blt xs.length 16777216) (some (.nx (env.set i (.own (.lst (xs ++ [y])))))), e.nd, fun k h q => by
  obtain ⟨x, h1, h⟩ := bind_inv h
  obtain ⟨xs, h2, h⟩ := bind_inv h
  obtain ⟨y, h3, h⟩ := bind_inv h
  obtain ⟨h4, h⟩ := when_inv h
  cases h
  cases lstOf_inv h2
  exact ws_append (ownAt_inv h1) (e.ok k h3 ⟨by rw [sizeLine_eq]; exact Nat.le_of_ble_eq_true h4, q⟩)⟩
def sExtend (i : Nat) (e : Ex) : Stx := ⟨fun K => tDrop (tBM K "list" rExtend (tVar i) (tCons (e.te K) tNil)), fun env => (ownAt env[i]?).bind fun x => (lstOf x).bind fun xs => (e.ev env).bind fun y => (lstOf y).bind fun ys => when (szOk (xs.length + ys.length)) (some (.nx (env.set i (.own (.lst (xs ++ ys)))))), e.nd, fun k h q => by
  obtain ⟨x, h1, h⟩ := bind_inv h
  obtain ⟨xs, h2, h⟩ := bind_inv h
  obtain ⟨y, h3, h⟩ := bind_inv h
  obtain ⟨ys, h5, h⟩ := bind_inv h
  obtain ⟨h4, h⟩ := when_inv h
  cases h
  cases lstOf_inv h2
  cases lstOf_inv h5
  exact ws_extend (ownAt_inv h1) (e.ok k h3 ⟨_, rfl, szOk_le h4, q⟩)⟩
def sPar (i j : Nat) (a : Exs) : Stx := ⟨fun K => tPar i j (a.ta K), fun env => (a.ev env).bind fun ds => match ds with
    | [x, y] => some (.nx ((env.set i (.d x)).set j (.d y)))
    | _ => none, a.nd, fun {W n env fl O} k h q => by
  obtain ⟨ds, h1, h⟩ := bind_inv h
  split at h
  · cases h; exact ws_par (a.ok k h1 ⟨_, _, rfl, q⟩)
  · cases h⟩
/-- x += e, whole numbers -/
def sAugI (g : Int → Int → Int) (i : Nat) (e : Ex) : Stx := ⟨fun K => tAug i (e.te K) (ipI g), fun env => (atEnv env[i]?).bind fun x => (inOf x).bind fun a => (e.ev env).bind fun y => (inOf y).bind fun b => some (.nx (env.set i (.d (.int (g a b))))), e.nd, fun {W n env fl O} k h q σ stk vs H De w f => by
  obtain ⟨x, h1, h⟩ := bind_inv h
  obtain ⟨a, h2, h⟩ := bind_inv h
  obtain ⟨y, h3, h⟩ := bind_inv h
  obtain ⟨b, h4, h⟩ := bind_inv h
  cases h
  cases inOf_inv h2
  cases inOf_inv h4
  have hv : ∃ v, σ[i]? = some (some v) ∧ Rp W.K H v (.int a) := by
    obtain ⟨kk, hh, pp, M1, M2, a, nd, bb, c⟩ := w
    obtain ⟨v, e, r⟩ := bb.getD (atEnv_inv h1)
    exact ⟨v, e, r.mono (era_sub _ _)⟩
  obtain ⟨v, e1, r⟩ := hv
  cases r
  refine ⟨_, e1, e.ok (Φ := fun d m => d = .int b ∧ m = n) k h3 ⟨rfl, rfl⟩ σ stk vs H _ w fun v d n' H' hd w' => ?_⟩
  obtain ⟨rfl, rfl⟩ := hd
  have t := w'.top
  cases t
  exact ⟨_, _, rfl, rfl, f.nx _ _ _ _ q ((w'.pop.push fun U _ => .int _).set i)⟩⟩

/-! ## a def by its evaluator -/
def endOf : Option Fl → Option D
  | some (.rt d) => some d
  | some (.nx _) => some .non
  | _ => none
def fnF (N : List Str) (np : Nat) (body : Stx) : List D → Option D := fun ds => when (Nat.beq ds.length np) (endOf (body.ev (envD N ds)))
section
variable {P : Program} {w : World} {K : PySem.W.Frag} {mg : Str → Option Value} {base : Heap} {k : Nat} {x : Str} {st : Stmt} {ps N : List Str}
theorem body_ok {body : Stx} {W : Wo} {ds : List D} {d : D} {Φ : D → Prop} (hn : body.nd W.K) (h : endOf (body.ev (envD N ds)) = some d) (q : Φ d) : WpS W (body.ts W.K) 0 (envD N ds) { nx := fun _ _ => Φ .non, rt := fun d _ => Φ d } := by
  cases e : body.ev (envD N ds) with
  | none => rw [e] at h; cases h
  | some fl =>
    rw [e] at h
    refine body.ok hn e ?_
    cases fl with
    | nx env => cases h; exact q
    | rt x => cases h; exact q
    | bk env => cases h
    | ct env => cases h
theorem has_F (Dd : DefIn K mg x st ps) (S : FnScope N ps (defScope st)) (np : Nat) (hnp : ps.length = np) (body : Stx) (hn : body.nd K)
    (hb : ∀ (f : Addr) (cdv : Value) (B : Around) (out : List Env) (t : Shared) (H : Hp) (E : XK), B.guards = some [] → Room k (B.deeper (envOfC x (defScope st) t.heap.objs.size f cdv)) →
      PSs (cxOf CX0 P w K mg base N x (defScope st) f cdv B out t H E).nox (defBody st) (body.ts K)) :
    Has P w K mg base (k + 1) x ps (spD K (CF (fnF N np body))) := by
  refine has_D Dd S (fun ds Φ h => ?_) fun f cdv B out t H E gu hr => ⟨body.ts K, hb f cdv B out t H E gu hr, fun W ds Φ hK hC => ?_⟩
  · obtain ⟨d, h, _⟩ := h
    rw [hnp]
    exact Nat.eq_of_beq_eq_true (when_inv h).1
  · subst hK
    obtain ⟨d, h, q⟩ := hC
    exact body_ok hn (when_inv h).2 q
theorem has_F2 {r : TS} (Dd : DefIn K mg x st ps) (S : FnScope N ps (defScope st)) (np : Nat) (hnp : ps.length = np) (body : Stx) (hn : body.nd K)
    (hb : ∀ (f : Addr) (cdv : Value) (B : Around) (out : List Env) (t : Shared) (H : Hp) (E : XK), B.guards = some [] → Room k (B.deeper (envOfC x (defScope st) t.heap.objs.size f cdv)) →
      PSs (cxOf CX0 P w K mg base N x (defScope st) f cdv B out t H E).nox (defBody st) r) (e : r = body.ts K) :
    Has P w K mg base (k + 1) x ps (spD K (CF (fnF N np body))) := by
  subst e
  exact has_F Dd S np hnp body hn hb
theorem has_none (Dd : DefIn K mg x st ps) (S : FnScope N ps (defScope st)) : Has P w K mg base (k + 1) x ps (spD K (CF fun _ => none)) :=
  has_D Dd S (fun ds Φ h => by obtain ⟨d, h, _⟩ := h; cases h) fun f cdv B out t H E gu hr => ⟨tNever, pss_never, fun W ds Φ hK hC => by obtain ⟨d, h, _⟩ := hC; cases h⟩
end
end FR
namespace FR
open PySem PySem.Spec PyProof.Rows L2
variable [TheW]
theorem te_xVar (i : Nat) (K : PySem.W.Frag) : (xVar i).te K = (tVar i) := rfl
theorem te_xInt (i : Int) (K : PySem.W.Frag) : (xInt i).te K = (tC (.int i)) := rfl
theorem te_xStr (i : Str) (K : PySem.W.Frag) : (xStr i).te K = (tC (.str i)) := rfl
theorem te_xBl (i : Bool) (K : PySem.W.Frag) : (xBl i).te K = (tC (.bl i)) := rfl
theorem te_xTy (i : String) (K : PySem.W.Frag) : (xTy i).te K = (tC (.ty i)) := rfl
theorem te_xNon (K : PySem.W.Frag) : (xNon).te K = (tC .non) := rfl
theorem te_aNil (K : PySem.W.Frag) : (aNil).ta K = (tNil) := rfl
theorem te_aCons (a : Ex) (b : Exs) (K : PySem.W.Frag) : (aCons a b).ta K = (tCons (a.te K) (b.ta K)) := rfl
theorem te_xTup (a : Exs) (K : PySem.W.Frag) : (xTup a).te K = (tTupP (a.ta K)) := rfl
theorem te_xLst (a : Exs) (K : PySem.W.Frag) : (xLst a).te K = (tLst (a.ta K)) := rfl
theorem te_xOp2 (s : Sem2) (a b : Ex) (K : PySem.W.Frag) : (xOp2 s a b).te K = (tOp (s.r K) (a.te K) (b.te K)) := rfl
theorem te_xUn (s : Sem1) (a : Ex) (K : PySem.W.Frag) : (xUn s a).te K = (tUn (s.r K) (a.te K)) := rfl
theorem te_xFn (s : SemN) (a : Exs) (K : PySem.W.Frag) : (xFn s a).te K = (tCB (s.r K) (a.ta K)) := rfl
theorem te_xCall (f : List D → Option D) (a : Exs) (K : PySem.W.Frag) : (xCall f a).te K = (tCall (spD K (CF f)) [] E0 (a.ta K)) := rfl
theorem te_tB_ (a : Ex) (K : PySem.W.Frag) : (tB_ a).tt K = (tB (a.te K)) := rfl
theorem te_tTest_ (a : Ex) (K : PySem.W.Frag) : (tTest_ a).tt K = (tTest (a.te K)) := rfl
theorem te_tYes_ (K : PySem.W.Frag) : (tYes_).tt K = (tYes) := rfl
theorem te_tNot_ (a : Ts) (K : PySem.W.Frag) : (tNot_ a).tt K = (tNot (a.tt K)) := rfl
theorem te_tAnd_ (a b : Ts) (K : PySem.W.Frag) : (tAnd_ a b).tt K = (tAnd (a.tt K) (b.tt K)) := rfl
theorem te_tOr_ (a b : Ts) (K : PySem.W.Frag) : (tOr_ a b).tt K = (tOr (a.tt K) (b.tt K)) := rfl
theorem te_xAnd (a b : Ex) (K : PySem.W.Frag) : (xAnd a b).te K = (tAndV (a.te K) (b.te K)) := rfl
theorem te_xOr (a b : Ex) (K : PySem.W.Frag) : (xOr a b).te K = (tOrV (a.te K) (b.te K)) := rfl
theorem te_xNot (a : Ex) (K : PySem.W.Frag) : (xNot a).te K = (tNotV (a.te K)) := rfl
theorem te_xIf (t : Ts) (a b : Ex) (K : PySem.W.Frag) : (xIf t a b).te K = (tIf (t.tt K) (a.te K) (b.te K)) := rfl
theorem te_xChain (s s' : Sem2) (a b c : Ex) (K : PySem.W.Frag) : (xChain s s' a b c).te K = (tChain (s.r K) (s'.r K) (a.te K) (b.te K) (c.te K)) := rfl
theorem te_poNone (K : PySem.W.Frag) : (poNone).to K = (tNoPart) := rfl
theorem te_poSome (a : Ex) (K : PySem.W.Frag) : (poSome a).to K = (tPart (a.te K)) := rfl
theorem te_gName_ (i : Nat) (K : PySem.W.Frag) : (gName_ i).tg K = (gName i) := rfl
theorem te_gNil_ (K : PySem.W.Frag) : (gNil_).tg K = (gNil) := rfl
theorem te_gCons_ (g : Tgx) (gs : Tgs) (K : PySem.W.Frag) : (gCons_ g gs).tg K = (gCons (g.tg K) (gs.tg K)) := rfl
theorem te_gTup_ (k : Nat) (gs : Tgs) (K : PySem.W.Frag) : (gTup_ k gs).tg K = (gTup K k (gs.tg K)) := rfl
theorem te_xLc (it : Itx) (g : Tgx) (t : Ts) (e : Ex) (sl : List Nat) (hL : (g.L.all fun i => sl.elem i) = true) (K : PySem.W.Frag) : (xLc it g t e sl hL).te K = (tLc (it.ti K) (g.tg K) (t.tt K) (e.te K) sl) := rfl
theorem te_sNext (K : PySem.W.Frag) : (sNext).ts K = (tNext) := rfl
theorem te_sSeq (a b : Stx) (K : PySem.W.Frag) : (sSeq a b).ts K = (tSeq (a.ts K) (b.ts K)) := rfl
theorem te_sDrop (e : Ex) (K : PySem.W.Frag) : (sDrop e).ts K = (tDrop (e.te K)) := rfl
theorem te_sRet (e : Ex) (K : PySem.W.Frag) : (sRet e).ts K = (tRet (e.te K)) := rfl
theorem te_sRetN (K : PySem.W.Frag) : (sRetN).ts K = (tRetN) := rfl
theorem te_sIf (t : Ts) (a b : Stx) (K : PySem.W.Frag) : (sIf t a b).ts K = (tIfS (t.tt K) (a.ts K) (b.ts K)) := rfl
theorem te_sAsg (e : Ex) (g : Tgx) (K : PySem.W.Frag) : (sAsg e g).ts K = (tAsg (e.te K) (g.tg K)) := rfl
theorem te_sBreak (K : PySem.W.Frag) : (sBreak).ts K = (tBreak) := rfl
theorem te_sCont (K : PySem.W.Frag) : (sCont).ts K = (tCont) := rfl
theorem te_sFor (it : Itx) (g : Tgx) (b : Stx) (K : PySem.W.Frag) : (sFor it g b).ts K = (tFor (it.ti K) (g.tg K) (b.ts K)) := rfl
theorem te_sWhile (fuel : List E → Nat) (t : Ts) (b : Stx) (K : PySem.W.Frag) : (sWhile fuel t b).ts K = (tWhile (t.tt K) (b.ts K)) := rfl
theorem te_jSeq (e : Ex) (K : PySem.W.Frag) : (jSeq e).ti K = (iSeq K (e.te K)) := rfl
theorem te_jRange1 (a : Exs) (K : PySem.W.Frag) : (jRange1 a).ti K = (iRng1 (a.ta K)) := rfl
theorem te_jRange2 (a : Exs) (K : PySem.W.Frag) : (jRange2 a).ti K = (iRng2 (a.ta K)) := rfl
theorem te_xSl (s : SemSl) (e : Ex) (lo hi : Po) (K : PySem.W.Frag) : (xSl s e lo hi).te K = (tSl (s.r K) (e.te K) (lo.to K) (hi.to K)) := rfl
theorem te_xRevT (e : Ex) (K : PySem.W.Frag) : (xRevT e).te K = (tRevT K (e.te K)) := rfl
theorem te_jZip (a : Exs) (K : PySem.W.Frag) : (jZip a).ti K = (RZ.iZipA K (a.ta K)) := rfl
theorem te_xPeek (e : Ex) (K : PySem.W.Frag) : (xPeek e).te K = (e.te K) := rfl
theorem te_tPeek (t : Ts) (K : PySem.W.Frag) : (tPeek t).tt K = (t.tt K) := rfl
theorem te_sNever (K : PySem.W.Frag) : (sNever).ts K = (tNever) := rfl
theorem te_sFz (is : List Nat) (s : Stx) (K : PySem.W.Frag) : (sFz is s).ts K = (s.ts K) := rfl
theorem te_sOwn (i : Nat) (K : PySem.W.Frag) : (sOwn i).ts K = (tAsg (tLst tNil) (gName i)) := rfl
theorem te_fLst (a : Exs) (K : PySem.W.Frag) : (fLst a).te K = (tLst (a.ta K)) := rfl
theorem te_fLc (it : Itx) (g : Tgx) (t : Ts) (e : Ex) (sl : List Nat) (hL : (g.L.all fun i => sl.elem i) = true) (K : PySem.W.Frag) : (fLc it g t e sl hL).te K = (tLc (it.ti K) (g.tg K) (t.tt K) (e.te K) sl) := rfl
theorem te_fListT (a : Exs) (K : PySem.W.Frag) : (fListT a).te K = (tCB (mList.r K) (a.ta K)) := rfl
theorem te_sSetF (i : Nat) (e : Fx) (K : PySem.W.Frag) : (sSetF i e).ts K = (tAsg (e.te K) (gName i)) := rfl
theorem te_sAppend (i : Nat) (e : Ex) (K : PySem.W.Frag) : (sAppend i e).ts K = (tDrop (tBM K "list" rAppend (tVar i) (tCons (e.te K) tNil))) := rfl
theorem te_sExtend (i : Nat) (e : Ex) (K : PySem.W.Frag) : (sExtend i e).ts K = (tDrop (tBM K "list" rExtend (tVar i) (tCons (e.te K) tNil))) := rfl
theorem te_sPar (i j : Nat) (a : Exs) (K : PySem.W.Frag) : (sPar i j a).ts K = (tPar i j (a.ta K)) := rfl
theorem te_sAugI (g : Int → Int → Int) (i : Nat) (e : Ex) (K : PySem.W.Frag) : (sAugI g i e).ts K = (tAug i (e.te K) (ipI g)) := rfl
end FR
namespace FR
open PySem PySem.Spec PyProof.Rows L2
variable [TheW]
section
variable {W : Wo} {n m : Nat} {env stk : List E} {σ : L2.St} {ds : List D} {vs : L2.St} {us : List V} {H H' : Hp} {d x y : D} {v vx vy : V} {i : Nat}
/-- an owned thing deep in the stack changed by the datum on its top -/
theorem Wd.ownPutS {x x' : D} {u u' : HO} (w : Wd W n env σ (.d y :: stk) (some vy :: vs) H) (hi : stk[i]? = some (.own x)) {p : Addr} (hp : vs[i]? = some (some (.ref p))) (hH : H p = some u) (ff : ∀ U : Hp, Same U H → OwR W.K U p u x → Rp W.K U vy y → OwR W.K U p u' x') :
    Wd W n env σ (stk.set i (.own x')) vs (upd H p u') := by
  obtain ⟨k1, h1, pp, M1, M2, a, nd, b, c⟩ := w
  obtain ⟨⟨u, e, ry⟩, c⟩ := c
  cases e
  obtain ⟨p', Ma, Mb, wz, e1, e2, e3, e4, f, g⟩ := c.owned hi
  rw [hp] at e2; cases e2
  rw [hH] at e3; cases e3
  subst e1
  have p0 := (a p (by simp)).1
  have hU : era (upd H p u') (W.M0 ++ (M1 ++ (Ma ++ p :: Mb))) = era H (W.M0 ++ (M1 ++ (Ma ++ p :: Mb))) := by
    funext b
    unfold era
    split
    · rfl
    · rename_i z
      rw [upd_ne]
      rintro rfl
      exact z (by simp)
  have nd2 := (List.nodup_append.mp nd).2.1
  have nq : ∀ q ∈ Ma ++ Mb, q ≠ p := fun q hq z => by
    subst z
    exact (List.nodup_cons.mp (List.perm_middle.nodup_iff.mp nd2)).1 hq
  have nq2 : ∀ q ∈ M1, q ≠ p := fun q hq z => by
    subst z
    exact (List.nodup_append.mp nd).2.2 q hq q (by simp) rfl
  refine ⟨fun b o n q => ?_, h1, fun q hq => ?_, M1, Ma ++ p :: Mb, fun q hq => ⟨(a q hq).1, ?_⟩, nd, ?_, ?_⟩
  · rw [upd_ne (by rintro rfl; rw [p0] at q; cases q)]; exact k1 b o n q
  · obtain ⟨z1, z2⟩ := pp q hq
    refine ⟨z1, ?_⟩
    obtain ⟨a1, b1, c1, z3, z4⟩ := z2
    refine ⟨a1, b1, c1, ?_, z4⟩
    rw [upd_ne (by rintro rfl; exact h1 _ z1 p0)]; exact z3
  · by_cases z : q = p
    · subst z; rw [upd_same]; exact fun z => by cases z
    · rw [upd_ne z]; exact (a q hq).2
  · rw [hU]
    exact EnvOk.mono2 (Same.refl _) (fun q hq o e => by rw [upd_ne (nq2 q hq)]; exact e) b
  · rw [hU]
    exact f _ _ _ _ (Same.refl _) (fun q hq o e => by rw [upd_ne (nq q hq)]; exact e) upd_same (ff _ (era_sub _ _) e4 ry)
theorem EnvOk.sLen {U : Hp} {es : List E} {vs : L2.St} {M : List Addr} (h : EnvOk W U H es vs M) : vs.length = es.length := h.len
theorem Wd.stkLen (w : Wd W n env σ stk vs H) : vs.length = stk.length := by
  obtain ⟨k1, h1, pp, M1, M2, a, nd, b, c⟩ := w
  exact c.len
/-- an owned list deep in the stack, one more item -/
theorem Wd.appendS {S : List E} {Sv : L2.St} {xs : List D} {p : Addr} (l : Sv.length = S.length) (w : Wd W n env σ (.d y :: (S ++ (.own (.lst xs) :: stk))) (some vy :: (Sv ++ (some (.ref p) :: vs))) H) :
    ∃ ws, H p = some (.lst ws) ∧ ws.length = xs.length ∧ Wd W n env σ (S ++ (.own (.lst (xs ++ [y])) :: stk)) (Sv ++ (some (.ref p) :: vs)) (upd H p (.lst (ws ++ [vy]))) := by
  have hi : (S ++ (E.own (.lst xs) :: stk))[S.length]? = some (.own (.lst xs)) := by simp
  have hv : (Sv ++ (some (V.ref p) :: vs))[S.length]? = some (some (.ref p)) := by rw [← l]; simp
  obtain ⟨ws, e1, e2⟩ : ∃ ws, H p = some (.lst ws) ∧ ws.length = xs.length := by
    obtain ⟨k1, h1, pp, M1, M2, a, nd, b, c⟩ := w
    obtain ⟨p', Ma, Mb, wz, e1, e2, e3, e4, f, g⟩ := c.2.owned hi
    rw [hv] at e2; cases e2
    cases e4 with
    | lst r => exact ⟨_, e3, r.len⟩
  refine ⟨ws, e1, e2, ?_⟩
  have w2 := w.ownPutS (x' := .lst (xs ++ [y])) (u' := .lst (ws ++ [vy])) hi hv e1 fun U _ h r => by
    cases h with
    | lst h => exact .lst (h.app (.cons r .nil))
  have es : (S ++ (E.own (.lst xs) :: stk)).set S.length (.own (.lst (xs ++ [y]))) = S ++ (.own (.lst (xs ++ [y])) :: stk) := by
    rw [List.set_append_right _ _ (Nat.le_refl _)]
    simp
  rw [es] at w2
  exact w2
/-- an item that is walked comes onto the stack -/
theorem Wd.come {J : It} {stk2 : List D} {vs2 : List V} (hJ : ItN W J ds stk2 vs2) {S : List E} {Sv : L2.St} (l : vs2.length = stk2.length) (lS : Sv.length = S.length)
    {G : Hp → Prop} {Y : Nat → Hp → V → Hp → Prop} (hY : ∀ i H x H', i < ds.length → RpL W.K H vs2 stk2 → Kp W H → Y i H x H' → ∃ d, ds[i]? = some d ∧ Same H H' ∧ ∀ M : List Addr, (∀ p ∈ M, H p ≠ Option.none) → RpL W.K (era H M) vs2 stk2 → Rp W.K (era H' M) x d)
    (w' : Wd W n env σ (S ++ (stk2.map E.d ++ stk)) (Sv ++ (vs2.map some ++ vs)) H) {i : Nat} {x : V} (hi : i < ds.length) (y : Y i H x H') : ∃ d, ds[i]? = some d ∧ Wd W n env σ (.d d :: (S ++ (stk2.map E.d ++ stk))) (some x :: (Sv ++ (vs2.map some ++ vs))) H' := by
  have hid := w'.hidH
  obtain ⟨k1, h1, pp, M1, M2, a, nd, b, c⟩ := w'
  obtain ⟨Ma, Mb, e, ca, cb⟩ := EnvOk.cut lS c
  have rl := (EnvOk.toL l cb).1
  obtain ⟨d, e1, s, r⟩ := hY i H x H' hi (rl.mono (era_sub _ _)) k1 y
  refine ⟨d, e1, fun b o n q => s _ _ (k1 b o n q), h1, fun q hq => ⟨(pp q hq).1, (pp q hq).2.mono s⟩, M1, M2, fun q hq => ⟨(a q hq).1, fun z => ?_⟩, nd, b.mono (era_mono _ s) s, ⟨x, rfl, ?_⟩, c.mono (era_mono _ s) s⟩
  · cases rr : H q with
    | none => exact (a q hq).2 rr
    | some o => rw [s _ _ rr] at z; cases z
  · refine r _ (fun p hp => ?_) rl
    rcases List.mem_append.mp hp with z | z
    · exact hid p z
    · exact (a p z).2
theorem Wd.seesS {stk2 : List D} {vs2 : List V} {S : List E} {Sv : L2.St} (l : vs2.length = stk2.length) (lS : Sv.length = S.length) (w' : Wd W n env σ (S ++ (stk2.map E.d ++ stk)) (Sv ++ (vs2.map some ++ vs)) H) : RpL W.K H vs2 stk2 := by
  obtain ⟨k1, h1, pp, M1, M2, a, nd, b, c⟩ := w'
  obtain ⟨Ma, Mb, e, ca, cb⟩ := EnvOk.cut lS c
  exact (EnvOk.toL l cb).1.mono (era_sub _ _)
end

def goLc2 (g : Tgx) (t : Ts) (it1 : Itx) (g1 : Tgx) (t1 : Ts) (e : Ex) (env : List E) (sl1 : List Nat) : List D → Option (List D)
  | [] => some []
  | d :: ds => (g.ev d env).bind fun env2 => (t.ev env2).bind fun b => match b with
    | true => (it1.ev env2).bind fun ds1 => (goLc g1 t1 e (wipeE (env2.map hideE) sl1) ds1).bind fun ys => (goLc2 g t it1 g1 t1 e env sl1 ds).bind fun zs => some (ys ++ zs)
    | false => goLc2 g t it1 g1 t1 e env sl1 ds
theorem drop_at {α : Type} {ds : List α} {i : Nat} {d : α} (hd : ds[i]? = some d) : ds.drop i = d :: ds.drop (i + 1) := by
  have hlt := (List.getElem?_eq_some_iff.mp hd).1
  rw [List.drop_eq_getElem_cons hlt]
  congr 1
  exact (List.getElem?_eq_some_iff.mp hd).2
/-- [e for .. if .. for .. if ..] -/
def xLc2 (it : Itx) (g : Tgx) (t : Ts) (it1 : Itx) (g1 : Tgx) (t1 : Ts) (e : Ex) (sl sl1 : List Nat) (hL : (g.L.all fun i => sl.elem i) = true) (hL1 : (g1.L.all fun i => sl1.elem i) = true) : Ex := ⟨fun K => tLc2 (it.ti K) (g.tg K) (t.tt K) (it1.ti K) (g1.tg K) (t1.tt K) (e.te K) sl sl1,
  fun env => (it.ev env).bind fun ds => (goLc2 g t it1 g1 t1 e (wipeE (env.map hideE) sl) sl1 ds).bind fun ys => when (szOk ys.length) (some (.lst ys)), two it.nd (two t.nd (two it1.nd (two t1.nd e.nd))), fun {W n env d Φ} k h q σ stk vs H Q w kk => by
  obtain ⟨ds, h1, h⟩ := bind_inv h
  obtain ⟨ys, h3, h⟩ := bind_inv h
  obtain ⟨h2, h⟩ := when_inv h
  cases h
  have hsz := szOk_le h2
  have hL' : ∀ i ∈ g.L, i ∈ sl := fun i hi => by
    have := List.all_eq_true.mp hL i hi
    simpa using this
  have hL1' : ∀ i ∈ g1.L, i ∈ sl1 := fun i hi => by
    have := List.all_eq_true.mp hL1 i hi
    simpa using this
  refine it.ok (Φ := fun ds' m => ds' = ds ∧ m = n) k.1 h1 ⟨rfl, rfl⟩ σ stk vs H _ w fun J ds' n1 H1 stk2 vs2 q1 l2 w1 hJ => ?_
  obtain ⟨rfl, rfl⟩ := q1
  intro Da hDa
  obtain ⟨G, Y, hw, hG, hY⟩ := hJ.ex
  have wn := w1.newOwn hDa
  refine ⟨fun i m H => m = ds'.length - i ∧ i ≤ ds'.length ∧ ∃ acc, (∃ rest, goLc2 g t it1 g1 t1 e (wipeE (env.map hideE) sl) sl1 (ds'.drop i) = some rest ∧ acc ++ rest = ys) ∧ Wd W n1 env σ (.own (.lst acc) :: (stk2.map E.d ++ stk)) (some (.ref Da) :: (vs2.map some ++ vs)) H, ⟨ds'.length, by simp, Nat.zero_le _, [], ⟨ys, h3, rfl⟩, wn⟩, ?_⟩
  rintro i m H2 ⟨rfl, hi, acc, ⟨rest, hr, hacc⟩, w2⟩
  have lenv := w2.envLen
  have qG := hG H2 (w2.popOwn.sees l2) w2.keep
  by_cases hlt : i < ds'.length
  · refine .inr ⟨hw.goes i H2 hlt qG, fun H' => i + 1 ≤ ds'.length ∧ ∃ acc, (∃ rest, goLc2 g t it1 g1 t1 e (wipeE (env.map hideE) sl) sl1 (ds'.drop (i + 1)) = some rest ∧ acc ++ rest = ys) ∧ Wd W n1 env σ (.own (.lst acc) :: (stk2.map E.d ++ stk)) (some (.ref Da) :: (vs2.map some ++ vs)) H', fun H' p' => ⟨_, by omega, rfl, p'⟩, fun x H3 y => ?_⟩
    obtain ⟨d, hd, w3⟩ := Wd.come (S := [.own (.lst acc)]) (Sv := [some (.ref Da)]) (G := G) (Y := Y) hJ l2 rfl hY w2 hlt (hw.yields i H2 x H3 hlt qG y)
    rw [drop_at hd] at hr
    obtain ⟨env2, h4, hr⟩ := bind_inv hr
    obtain ⟨b, h5, hr⟩ := bind_inv hr
    refine g.ok (Φ := fun e2 m => e2 = env2 ∧ m = n1) h4 ⟨rfl, rfl⟩ (L2.wipe σ sl) _ _ x H3 _ (w3.save sl) fun σ3 env3 m3 H4 s3 q3 w4 => ⟨(s3 sl hL').trans wipe_twice, ?_⟩
    obtain ⟨rfl, rfl⟩ := q3
    refine t.ok (Φ := fun b2 m => b2 = b ∧ m = m3) k.2.1 h5 ⟨rfl, rfl⟩ σ3 _ _ H4 _ w4 fun b2 m4 H5 q4 w5 => ?_
    obtain ⟨rfl, rfl⟩ := q4
    cases b2 with
    | false => exact ⟨hlt, acc, ⟨rest, hr, hacc⟩, w5.back0 lenv⟩
    | true =>
      obtain ⟨ds1, h6, hr⟩ := bind_inv hr
      obtain ⟨ys1, h7, hr⟩ := bind_inv hr
      obtain ⟨zs, h8, hr⟩ := bind_inv hr
      cases hr
      refine it1.ok (Φ := fun d2 m => d2 = ds1 ∧ m = m4) k.2.2.1 h6 ⟨rfl, rfl⟩ σ3 _ _ H5 _ w5 fun J1 d2 n6 H6 stk3 vs3 q6 l3 w6 hJ1 => ?_
      obtain ⟨rfl, rfl⟩ := q6
      obtain ⟨G1, Y1, hw1, hG1, hY1⟩ := hJ1.ex
      refine ⟨fun j k H => k = d2.length - j ∧ j ≤ d2.length ∧ ∃ acc1, (∃ rest1, goLc g1 t1 e (wipeE (env3.map hideE) sl1) (d2.drop j) = some rest1 ∧ acc1 ++ (rest1 ++ zs) = ys) ∧ Wd W n6 env3 σ3 (stk3.map E.d ++ (env ++ (.own (.lst acc1) :: (stk2.map E.d ++ stk)))) (vs3.map some ++ (σ ++ (some (.ref Da) :: (vs2.map some ++ vs)))) H, ⟨_, rfl, Nat.zero_le _, acc, ⟨ys1, h7, hacc⟩, w6⟩, ?_⟩
      rintro j k2 H7 ⟨rfl, hj, acc1, ⟨rest1, hr1, hacc1⟩, w7⟩
      have lenv3 := w7.envLen
      have qG1 := hG1 H7 (Wd.seesS (S := []) (Sv := []) l3 rfl w7) w7.keep
      by_cases hlt1 : j < d2.length
      · refine .inr ⟨hw1.goes j H7 hlt1 qG1, fun H' => j + 1 ≤ d2.length ∧ ∃ acc1, (∃ rest1, goLc g1 t1 e (wipeE (env3.map hideE) sl1) (d2.drop (j + 1)) = some rest1 ∧ acc1 ++ (rest1 ++ zs) = ys) ∧ Wd W n6 env3 σ3 (stk3.map E.d ++ (env ++ (.own (.lst acc1) :: (stk2.map E.d ++ stk)))) (vs3.map some ++ (σ ++ (some (.ref Da) :: (vs2.map some ++ vs)))) H', fun H' p' => ⟨_, by omega, rfl, p'⟩, fun x1 H8 y1 => ?_⟩
        obtain ⟨d1, hd1, w8⟩ := Wd.come (S := []) (Sv := []) (G := G1) (Y := Y1) hJ1 l3 rfl hY1 w7 hlt1 (hw1.yields j H7 x1 H8 hlt1 qG1 y1)
        rw [drop_at hd1] at hr1
        obtain ⟨env4, h9, hr1⟩ := bind_inv hr1
        obtain ⟨b1, h10, hr1⟩ := bind_inv hr1
        refine g1.ok (Φ := fun e2 m => e2 = env4 ∧ m = n6) h9 ⟨rfl, rfl⟩ (L2.wipe σ3 sl1) _ _ x1 H8 _ (w8.save sl1) fun σ5 env5 m5 H9 s5 q5 w9 => ⟨(s5 sl1 hL1').trans wipe_twice, ?_⟩
        obtain ⟨rfl, rfl⟩ := q5
        refine t1.ok (Φ := fun b2 m => b2 = b1 ∧ m = m5) k.2.2.2.1 h10 ⟨rfl, rfl⟩ σ5 _ _ H9 _ w9 fun b3 m6 H10 q7 w10 => ?_
        obtain ⟨rfl, rfl⟩ := q7
        cases b3 with
        | false => exact ⟨hlt1, acc1, ⟨rest1, hr1, hacc1⟩, w10.back0 lenv3⟩
        | true =>
          obtain ⟨yv, h11, hr1⟩ := bind_inv hr1
          obtain ⟨ys2, h12, hr1⟩ := bind_inv hr1
          cases hr1
          refine e.ok (Φ := fun d2 m => d2 = yv ∧ m = m6) k.2.2.2.2 h11 ⟨rfl, rfl⟩ σ5 _ _ H10 _ w10 fun vy y2 m7 H11 q8 w11 => ?_
          obtain ⟨rfl, rfl⟩ := q8
          have w12 := w11.back lenv3
          have w13 : Wd W m7 env3 σ3 (.d y2 :: ((stk3.map E.d ++ env) ++ (.own (.lst acc1) :: (stk2.map E.d ++ stk)))) (some vy :: ((vs3.map some ++ σ) ++ (some (.ref Da) :: (vs2.map some ++ vs)))) H11 := by
            rw [List.append_assoc, List.append_assoc]; exact w12
          obtain ⟨ws, e13, l13, w14⟩ := Wd.appendS (by simp [l3, lenv]) w13
          rw [List.append_assoc, List.append_assoc] at w14
          refine ⟨ws, e13, ?_, hlt1, acc1 ++ [y2], ⟨ys2, h12, by rw [← hacc1]; simp⟩, w14⟩
          have hl : acc1.length + 1 ≤ ys.length := by rw [← hacc1]; simp
          omega
      · have ej : j = d2.length := by omega
        subst ej
        rw [List.drop_length] at hr1
        cases hr1
        exact .inl ⟨hw1.stops H7 qG1, hlt, acc1, ⟨zs, h8, hacc1⟩, (w7.pops l3).back0 lenv⟩
  · have ei : i = ds'.length := by omega
    subst ei
    rw [List.drop_length] at hr
    cases hr
    rw [List.append_nil] at hacc
    subst hacc
    refine .inl ⟨hw.stops H2 qG, kk _ _ n1 H2 q ?_⟩
    have w6 : Wd W n1 env σ ((.lst acc :: stk2).map E.d ++ stk) ((.ref Da :: vs2).map some ++ vs) H2 := w2.freeze
    exact Wd.restk (ds := .lst acc :: stk2) (us := .ref Da :: vs2) (ds' := [.lst acc]) (us' := [.ref Da]) w6 (by simp [l2]) fun U _ r => by
      cases r with
      | cons r _ => exact .cons r .nil⟩
theorem te_xLc2 (it : Itx) (g : Tgx) (t : Ts) (it1 : Itx) (g1 : Tgx) (t1 : Ts) (e : Ex) (sl sl1 : List Nat) (hL : (g.L.all fun i => sl.elem i) = true) (hL1 : (g1.L.all fun i => sl1.elem i) = true) (K : PySem.W.Frag) : (xLc2 it g t it1 g1 t1 e sl sl1 hL hL1).te K = tLc2 (it.ti K) (g.tg K) (t.tt K) (it1.ti K) (g1.tg K) (t1.tt K) (e.te K) sl sl1 := rfl
end FR
namespace FR
open PySem PySem.Spec PyProof.Rows L2
variable [TheW]

/-! ## instances -/
def insOf (C : Addr) : D → Option (List (Str × D))
  | .ins C' _ _ fs => when (Nat.beq C' C) (some fs)
  | _ => none
theorem insOf_inv {C : Addr} {x : D} {fs : List (Str × D)} (h : insOf C x = some fs) : ∃ a dx, x = .ins C a dx fs := by
  cases x with
  | ins C' a dx gs =>
    obtain ⟨h1, h2⟩ := when_inv h
    cases h2
    cases Nat.eq_of_beq_eq_true h1
    exact ⟨a, dx, rfl⟩
  | _ => cases h
def xFld (C : Addr) (f : Str) (o : Ex) : Ex := ⟨fun K => tFld K (o.te K) f, fun env => (o.ev env).bind fun x => (insOf C x).bind fun fs => fs.lookup f, fun K => o.nd K ∧ Cls K C ∧ NoAttr K C f, fun k h q => by
  obtain ⟨x, h1, h8⟩ := bind_inv h
  obtain ⟨fs, h2, h9⟩ := bind_inv h8
  obtain ⟨a, dx, rfl⟩ := insOf_inv h2
  exact wp_fld k.2.1 k.2.2 (o.ok k.1 h1 ⟨a, dx, fs, rfl, _, h9, q⟩)⟩
def xMeth (C : Addr) (m : Str) (f : List D → Option D) (o : Ex) (as : Exs) : Ex := ⟨fun K => tMeth C m (spD K (CF f)) [] E0 (o.te K) (as.ta K), fun env => (o.ev env).bind fun x => (insOf C x).bind fun fs => when (fs.lookup m).isNone ((as.ev env).bind fun ds => f (x :: ds)), two o.nd as.nd, fun k h q => by
  obtain ⟨x, h1, h⟩ := bind_inv h
  obtain ⟨fs, h2, h⟩ := bind_inv h
  obtain ⟨h3, h⟩ := when_inv h
  obtain ⟨ds, h4, h⟩ := bind_inv h
  obtain ⟨a, dx, rfl⟩ := insOf_inv h2
  exact wp_meth (o.ok k.1 h1 ⟨a, dx, fs, rfl, by simpa using h3, as.ok k.2 h4 ⟨_, h, q⟩⟩)⟩
/-- x in o, by an own __contains__ -/
def mInO (C : Addr) (f : List D → Option D) (neg : Bool) : Sem2 := ⟨fun K => rInO C (spD K (CF f)) neg, fun x y => (insOf C y).bind fun _ => (f [y, x]).bind fun r => (blOf r).bind fun b => some (.bl (b != neg)), fun h q => by
  obtain ⟨fs, h1, h⟩ := bind_inv h
  obtain ⟨r, h2, h⟩ := bind_inv h
  obtain ⟨b, h3, h⟩ := bind_inv h
  cases h
  cases blOf_inv h3
  obtain ⟨a, dx, rfl⟩ := insOf_inv h1
  exact op_inO ⟨_, h2, b, rfl, q⟩⟩
def CI (f : List D → Option (List (Str × D))) : List D → (List (Str × D) → Prop) → Prop := fun ds Ψ => ∃ fs, f ds = some fs ∧ Ψ fs
def xMake (C : Addr) (f : List D → Option (List (Str × D))) (as : Exs) : Ex := ⟨fun K => tMake C (spI K C (CI f)) [] E0 (as.ta K), fun env => (as.ev env).bind fun ds => (f ds).bind fun fs => some (.ins C 0 0 fs), as.nd, fun k h q => by
  obtain ⟨ds, h1, h⟩ := bind_inv h
  obtain ⟨fs, h2, h⟩ := bind_inv h
  cases h
  exact wp_make (as.ok k h1 ⟨_, h2, q⟩)⟩
/-- self.f = e -/
def sFld_ (C : Addr) (i : Nat) (f : Str) (e : Ex) : Stx := ⟨fun K => sFld K (tVar i) (e.te K) f, fun env => match ownAt env[i]? with
    | some (.ins C' p dx fs) => when (Nat.beq C' C && Nat.blt fs.length 1000) ((e.ev env).bind fun y => some (.nx (env.set i (.own (.ins C p dx (putD f y fs))))))
    | _ => none, fun K => e.nd K ∧ Cls K C ∧ NoAttr K C f, fun {W n env fl O} k h q => by
  split at h
  · rename_i C' p dx fs e1
    obtain ⟨h1, h⟩ := when_inv h
    obtain ⟨y, h2, h⟩ := bind_inv h
    cases h
    rw [Bool.and_eq_true] at h1
    cases Nat.eq_of_beq_eq_true h1.1
    exact ws_fld k.2.1 k.2.2 (Nat.le_of_ble_eq_true h1.2) (ownAt_inv e1) (e.ok k.1 h2 q)
  · cases h⟩
def fldsAt : Option E → Option (List (Str × D))
  | some (.own (.ins _ _ _ fs)) => some fs
  | _ => none
def endI : Option Fl → Option (List (Str × D))
  | some (.nx env) => fldsAt env[0]?
  | _ => none
/-- the fields that an __init__ gives, whatever the new address is -/
def fnI (N : List Str) (np : Nat) (C : Addr) (body : Stx) : List D → Option (List (Str × D)) := fun ds => when (Nat.beq (ds.length + 1) np) (endI (body.ev (envI N (.ins C 0 0 []) ds)))

/-! ## dicts -/
def keyOf : D → Option Key
  | .int i => some (.inl i)
  | .str x => some (.inr x)
  | _ => none
theorem keyOf_inv {x : D} {k : Key} (h : keyOf x = some k) : x = keyD k := by
  cases x <;> first | (cases h; rfl) | cases h
def dctOf : D → Option (List (Key × D))
  | .dct kvs => some kvs
  | _ => none
theorem dctOf_inv {x : D} {k : List (Key × D)} (h : dctOf x = some k) : x = .dct k := by
  cases x <;> first | (cases h; rfl) | cases h
def xDGet (d k : Ex) : Ex := ⟨fun K => tDGet (d.te K) (k.te K), fun env => (d.ev env).bind fun x => (dctOf x).bind fun kvs => (k.ev env).bind fun y => (keyOf y).bind fun key => valD kvs key, two d.nd k.nd, fun nd h q => by
  obtain ⟨x, h1, h⟩ := bind_inv h
  obtain ⟨kvs, h2, h⟩ := bind_inv h
  obtain ⟨y, h3, h⟩ := bind_inv h
  obtain ⟨key, h4, h⟩ := bind_inv h
  exact wp_dget (d.ok nd.1 h1 ⟨kvs, dctOf_inv h2, k.ok nd.2 h3 ⟨key, _, keyOf_inv h4, h, q⟩⟩)⟩
def xDIn (k d : Ex) : Ex := ⟨fun K => tDIn (k.te K) (d.te K), fun env => (k.ev env).bind fun y => (keyOf y).bind fun key => (d.ev env).bind fun x => (dctOf x).bind fun kvs => some (.bl (valD kvs key).isSome), two k.nd d.nd, fun nd h q => by
  obtain ⟨y, h1, h⟩ := bind_inv h
  obtain ⟨key, h2, h⟩ := bind_inv h
  obtain ⟨x, h3, h⟩ := bind_inv h
  obtain ⟨kvs, h4, h⟩ := bind_inv h
  cases h
  exact wp_din (k.ok nd.1 h1 ⟨key, keyOf_inv h2, d.ok nd.2 h3 ⟨kvs, dctOf_inv h4, q⟩⟩)⟩
/-- d.get(k, x) -/
def xDGet2 (d k x : Ex) : Ex := ⟨fun K => tDGet2 (d.te K) (k.te K) (x.te K), fun env => (d.ev env).bind fun v => (dctOf v).bind fun kvs => (k.ev env).bind fun y => (keyOf y).bind fun key => (x.ev env).bind fun z => some ((valD kvs key).getD z), two d.nd (two k.nd x.nd), fun {W n env dd Φ} nd h q σ stk vs H Q w kk => by
  obtain ⟨v, h1, h⟩ := bind_inv h
  obtain ⟨kvs, h2, h⟩ := bind_inv h
  obtain ⟨y, h3, h⟩ := bind_inv h
  obtain ⟨key, h4, h⟩ := bind_inv h
  obtain ⟨z, h5, h⟩ := bind_inv h
  cases h
  cases dctOf_inv h2
  cases keyOf_inv h4
  refine d.ok (Φ := fun a m => a = .dct kvs ∧ m = n) nd.1 h1 ⟨rfl, rfl⟩ σ stk vs H _ w fun vd a n1 H1 q1 w1 => ?_
  obtain ⟨rfl, rfl⟩ := q1
  have t := w1.top
  cases t with
  | @dct a us _ ha hr =>
    refine ⟨a, rfl, .inl ⟨us, ha⟩, ?_⟩
    refine k.ok (Φ := fun b m => b = keyD key ∧ m = n1) nd.2.1 h3 ⟨rfl, rfl⟩ σ _ _ H1 _ w1 fun vk b n2 H2 q2 w2 => ?_
    obtain ⟨rfl, rfl⟩ := q2
    refine x.ok (Φ := fun b m => b = z ∧ m = n2) nd.2.2 h5 ⟨rfl, rfl⟩ σ _ _ H2 _ w2 fun vz b n3 H3 q3 w3 => ?_
    obtain ⟨rfl, rfl⟩ := q3
    obtain ⟨U, s, r, f, _⟩ := Wd.view (ds := [b, keyD key, .dct kvs]) (us := [vz, vk, .ref a]) w3 rfl
    cases r with
    | cons rz r =>
      cases r with
      | cons rk r =>
        cases r with
        | cons rd _ =>
          cases rd with
          | @dct _ us' _ hd hr' =>
            obtain ⟨q1, q2⟩ := hr'.val (k := key)
            refine ⟨valV us' key, .inl ⟨us', key, same_rd s hd, rk.key, rfl⟩, ?_⟩
            cases hv : valD kvs key with
            | none =>
              rw [hv] at q2 q
              have e : valV us' key = none := by cases hh : valV us' key with
                | none => rfl
                | some _ => rw [hh] at q2; cases q2
              rw [e]
              exact kk _ _ n3 H3 q (f [vz] [b] (.cons rz .nil))
            | some d' =>
              obtain ⟨v, e1, e2⟩ := q1 d' hv
              rw [hv] at q
              rw [e1]
              exact kk _ _ n3 H3 q (f [v] [d'] (.cons e2 .nil))⟩
/-! ### dict comprehensions -/
def goDc (g : Tgx) (t : Ts) (k v : Ex) (env : List E) : List D → List (Key × D) → Option (List (Key × D))
  | [], acc => some acc
  | d :: ds, acc => (g.ev d env).bind fun env2 => (t.ev env2).bind fun b => match b with
    | true => (k.ev env2).bind fun y => (keyOf y).bind fun key => (v.ev env2).bind fun z => goDc g t k v env ds (putKD acc key z)
    | false => goDc g t k v env ds acc
theorem putKD_len {acc : List (Key × D)} {k : Key} {z : D} : (putKD acc k z).length ≤ acc.length + 1 := by
  unfold putKD
  split
  · rw [List.length_map]; omega
  · rw [List.length_append]; simp
def xDc (it : Itx) (g : Tgx) (t : Ts) (kx vx : Ex) (sl : List Nat) (hL : (g.L.all fun i => sl.elem i) = true) : Ex := ⟨fun K => tDc (it.ti K) (g.tg K) (t.tt K) (kx.te K) (vx.te K) sl,
  fun env => (it.ev env).bind fun ds => when (szOk ds.length) ((goDc g t kx vx (wipeE (env.map hideE) sl) ds []).bind fun ys => some (.dct ys)), two it.nd (two t.nd (two kx.nd vx.nd)), fun {W n env d Φ} k h q σ stk vs H Q w kk => by
  obtain ⟨ds, h1, h⟩ := bind_inv h
  obtain ⟨h2, h⟩ := when_inv h
  obtain ⟨ys, h3, h⟩ := bind_inv h
  cases h
  have hsz := szOk_le h2
  have hL' : ∀ i ∈ g.L, i ∈ sl := fun i hi => by
    have := List.all_eq_true.mp hL i hi
    simpa using this
  refine it.ok (Φ := fun ds' m => ds' = ds ∧ m = n) k.1 h1 ⟨rfl, rfl⟩ σ stk vs H _ w fun J ds' n1 H1 stk2 vs2 q1 l2 w1 hJ => ?_
  obtain ⟨rfl, rfl⟩ := q1
  intro Da hDa
  obtain ⟨G, Y, hw, hG, hY⟩ := hJ.ex
  have wn := w1.newOw (o := .dK []) (x := .dct []) hDa fun _ => .dct .nil
  refine ⟨fun i m H => m = ds'.length - i ∧ i ≤ ds'.length ∧ ∃ acc, goDc g t kx vx (wipeE (env.map hideE) sl) (ds'.drop i) acc = some ys ∧ acc.length ≤ i ∧ Wd W n1 env σ (.own (.dct acc) :: (stk2.map E.d ++ stk)) (some (.ref Da) :: (vs2.map some ++ vs)) H, ⟨ds'.length, by simp, Nat.zero_le _, [], h3, Nat.le_refl _, wn⟩, ?_⟩
  rintro i m H2 ⟨rfl, hi, acc, hr, hacc, w2⟩
  have lenv := w2.envLen
  have qG := hG H2 (w2.popOwn.sees l2) w2.keep
  by_cases hlt : i < ds'.length
  · refine .inr ⟨hw.goes i H2 hlt qG, fun H' => i + 1 ≤ ds'.length ∧ ∃ acc, goDc g t kx vx (wipeE (env.map hideE) sl) (ds'.drop (i + 1)) acc = some ys ∧ acc.length ≤ i + 1 ∧ Wd W n1 env σ (.own (.dct acc) :: (stk2.map E.d ++ stk)) (some (.ref Da) :: (vs2.map some ++ vs)) H', fun H' p' => ⟨_, by omega, rfl, p'⟩, fun x H3 y => ?_⟩
    obtain ⟨d, hd, w3⟩ := Wd.come (S := [.own (.dct acc)]) (Sv := [some (.ref Da)]) (G := G) (Y := Y) hJ l2 rfl hY w2 hlt (hw.yields i H2 x H3 hlt qG y)
    rw [drop_at hd] at hr
    obtain ⟨env2, h4, hr⟩ := bind_inv hr
    obtain ⟨b, h5, hr⟩ := bind_inv hr
    refine g.ok (Φ := fun e2 m => e2 = env2 ∧ m = n1) h4 ⟨rfl, rfl⟩ (L2.wipe σ sl) _ _ x H3 _ (w3.save sl) fun σ3 env3 m3 H4 s3 q3 w4 => ⟨(s3 sl hL').trans wipe_twice, ?_⟩
    obtain ⟨rfl, rfl⟩ := q3
    refine t.ok (Φ := fun b2 m => b2 = b ∧ m = m3) k.2.1 h5 ⟨rfl, rfl⟩ σ3 _ _ H4 _ w4 fun b2 m4 H5 q4 w5 => ?_
    obtain ⟨rfl, rfl⟩ := q4
    cases b2 with
    | false => exact ⟨hlt, acc, hr, by omega, w5.back0 lenv⟩
    | true =>
      obtain ⟨yk, h6, hr⟩ := bind_inv hr
      obtain ⟨key, h7, hr⟩ := bind_inv hr
      obtain ⟨z, h8, hr⟩ := bind_inv hr
      cases keyOf_inv h7
      refine kx.ok (Φ := fun d2 m => d2 = keyD key ∧ m = m4) k.2.2.1 h6 ⟨rfl, rfl⟩ σ3 _ _ H5 _ w5 fun vk d6 n6 H6 q6 w6 => ?_
      obtain ⟨rfl, rfl⟩ := q6
      refine vx.ok (Φ := fun d2 m => d2 = z ∧ m = n6) k.2.2.2 h8 ⟨rfl, rfl⟩ σ3 _ _ H6 _ w6 fun vz d7 n7 H7 q7 w7 => ?_
      obtain ⟨rfl, rfl⟩ := q7
      have hk : vk = kV key := by
        have := Wd.sees (ds := [d7, keyD key]) (us := [vz, vk]) w7 rfl
        cases this with
        | cons _ r =>
          cases r with
          | cons r _ => exact r.key
      have w8 : Wd W n7 env3 σ3 (.d d7 :: (env ++ (.own (.dct acc) :: (stk2.map E.d ++ stk)))) (some vz :: (σ ++ (some (.ref Da) :: (vs2.map some ++ vs)))) H7 :=
        Wd.restk (ds := [d7, keyD key]) (us := [vz, vk]) (ds' := [d7]) (us' := [vz]) w7 rfl fun U _ r => by
          cases r with
          | cons r _ => exact .cons r .nil
      have w9 := w8.back lenv
      have hi0 : (E.own (D.dct acc) :: (stk2.map E.d ++ stk))[0]? = some (.own (.dct acc)) := rfl
      obtain ⟨us9, e9, l9⟩ : ∃ us, H7 Da = some (.dK us) ∧ us.length = acc.length := by
        obtain ⟨k1, h1, pp, M1, M2, a, nd, b, c⟩ := w9
        obtain ⟨p', Ma, Mb, wz, e1, e2, e3, e4, f, gg⟩ := c.2.owned hi0
        cases e2
        cases e4 with
        | dct r => exact ⟨_, e3, r.len⟩
      have w10 := w9.ownPutS (x' := .dct (putKD acc key d7)) (u' := .dK (putK us9 key vz)) hi0 rfl e9 fun U _ h r => by
        cases h with
        | dct h => exact .dct (h.put r)
      exact ⟨us9, key, hk, e9, by omega, hlt, putKD acc key d7, hr, by have := putKD_len (acc := acc) (k := key) (z := d7); omega, w10⟩
  · have ei : i = ds'.length := by omega
    subst ei
    rw [List.drop_length] at hr
    cases hr
    refine .inl ⟨hw.stops H2 qG, kk _ _ n1 H2 q ?_⟩
    have w6 : Wd W n1 env σ ((.dct ys :: stk2).map E.d ++ stk) ((.ref Da :: vs2).map some ++ vs) H2 := w2.freeze
    exact Wd.restk (ds := .dct ys :: stk2) (us := .ref Da :: vs2) (ds' := [.dct ys]) (us' := [.ref Da]) w6 (by simp [l2]) fun U _ r => by
      cases r with
      | cons r _ => exact .cons r .nil⟩
end FR
namespace FR
open PySem PySem.Spec PyProof.Rows L2
variable [TheW]
/-! ## several things locked at once -/
def tLk : List Addr → TE → TE
  | [], t => t
  | d :: L, t => fun σ H Q => ∃ u, H d = some u ∧ Mut (some u) ∧ ∀ od, tLk L t σ (upd H d (.frz od u)) fun v H' => H' d = some (.frz od u) ∧ Q v (upd H' d u)
def tLocks (t : TE) : TE := fun σ H Q => ∃ L, tLk L t σ H Q
theorem pe_lk {X : Cx} {e : Expr} {t : TE} (h : PE X e t) : ∀ L : List Addr, PE X e (tLk L t)
  | [] => h
  | d :: L => ⟨fun pins s σ H Q I q => by
    obtain ⟨u, h1, h2, h3⟩ := q
    exact (pe_lock (pe_lk h L)).run pins s σ H Q I ⟨d, u, h1, h2, h3⟩⟩
theorem pe_locks {X : Cx} {e : Expr} {t : TE} (h : PE X e t) : PE X e (tLocks t) := ⟨fun pins s σ H Q I q => by
  obtain ⟨L, q⟩ := q
  exact (pe_lk h L).run pins s σ H Q I q⟩
/-- the heap with these locked -/
def Lkd (H HL : Hp) (L : List Addr) : Prop := (∀ b, b ∉ L → HL b = H b) ∧ ∀ d ∈ L, ∀ u, H d = some u → ∃ o, HL d = some (.frz o u)
theorem lk_run {t : TE} {σ : L2.St} (P : Hp → V → Hp → Prop) : ∀ (L : List Addr) {H : Hp} {Q : VK}, L.Nodup → (∀ d ∈ L, ∃ u, H d = some u ∧ Mut (some u)) → (∀ HL, Lkd H HL L → ∀ Q2 : VK, (∀ v H', P HL v H' → Q2 v H') → t σ HL Q2) →
    (∀ HL v H', Lkd H HL L → P HL v H' → (∀ d ∈ L, H' d = HL d) ∧ ∀ H'' : Hp, (∀ b, b ∉ L → H'' b = H' b) → (∀ d ∈ L, H'' d = H d) → Q v H'') → tLk L t σ H Q
  | [], H, Q, _, _, h1, h2 => h1 H ⟨fun _ _ => rfl, fun d hd => by cases hd⟩ Q fun v H' p => (h2 H v H' ⟨fun _ _ => rfl, fun d hd => by cases hd⟩ p).2 H' (fun _ _ => rfl) fun d hd => by cases hd
  | d :: L, H, Q, nd, hm, h1, h2 => by
    obtain ⟨nd1, nd2⟩ := List.nodup_cons.mp nd
    obtain ⟨u, hu, mu⟩ := hm d (by simp)
    refine ⟨u, hu, mu, fun od => ?_⟩
    have ne : ∀ b ∈ L, b ≠ d := fun b hb z => nd1 (z ▸ hb)
    have up : ∀ HL, Lkd (upd H d (.frz od u)) HL L → Lkd H HL (d :: L) ∧ HL d = some (.frz od u) := fun HL hL => by
      have hd : HL d = some (.frz od u) := by rw [hL.1 d nd1, upd_same]
      refine ⟨⟨fun b hb => ?_, fun b hb v hv => ?_⟩, hd⟩
      · rw [List.mem_cons, not_or] at hb
        rw [hL.1 b hb.2, upd_ne hb.1]
      · rcases List.mem_cons.mp hb with rfl | hb
        · rw [hu] at hv; cases hv; exact ⟨od, hd⟩
        · exact hL.2 b hb v (by rw [upd_ne (ne b hb)]; exact hv)
    refine lk_run P L nd2 (fun b hb => ?_) (fun HL hL Q2 hq => h1 HL (up HL hL).1 Q2 hq) fun HL v H' hL hp => ?_
    · rw [upd_ne (ne b hb)]; exact hm b (List.mem_cons_of_mem _ hb)
    · obtain ⟨g1, g2⟩ := h2 HL v H' (up HL hL).1 hp
      refine ⟨fun b hb => g1 b (List.mem_cons_of_mem _ hb), fun H'' e1 e2 => ⟨?_, g2 _ (fun b hb => ?_) fun b hb => ?_⟩⟩
      · rw [e1 d nd1, g1 d (by simp), (up HL hL).2]
      · rw [List.mem_cons, not_or] at hb
        rw [upd_ne hb.1, e1 b hb.2]
      · rcases List.mem_cons.mp hb with rfl | hb
        · rw [upd_same, hu]
        · rw [upd_ne (ne b hb), e2 b hb, upd_ne (ne b hb)]
theorem nodup_of (p : Addr → Prop) [DecidablePred p] : ∀ l : List Addr, ∃ L : List Addr, L.Nodup ∧ ∀ b, b ∈ L ↔ b ∈ l ∧ p b
  | [] => ⟨[], List.nodup_nil, fun b => by simp⟩
  | a :: l => by
    obtain ⟨L, h1, h2⟩ := nodup_of p l
    by_cases hp : p a
    · by_cases ha : a ∈ L
      · refine ⟨L, h1, fun b => ?_⟩
        rw [h2 b, List.mem_cons]
        constructor
        · exact fun z => ⟨.inr z.1, z.2⟩
        · rintro ⟨rfl | z, w⟩
          · exact (h2 b).mp ha
          · exact ⟨z, w⟩
      · refine ⟨a :: L, List.nodup_cons.mpr ⟨ha, h1⟩, fun b => ?_⟩
        rw [List.mem_cons, h2 b, List.mem_cons]
        constructor
        · rintro (rfl | z)
          · exact ⟨.inl rfl, hp⟩
          · exact ⟨.inr z.1, z.2⟩
        · rintro ⟨rfl | z, w⟩
          · exact .inl rfl
          · exact .inr ⟨z, w⟩
    · refine ⟨L, h1, fun b => ?_⟩
      rw [h2 b, List.mem_cons]
      constructor
      · exact fun z => ⟨.inr z.1, z.2⟩
      · rintro ⟨rfl | z, w⟩
        · exact absurd w hp
        · exact ⟨z, w⟩
theorem upd_two (H : Hp) (a : Addr) (x y : HO) : upd (upd H a x) a y = upd H a y := by
  funext b
  by_cases e : b = a
  · subst e; rw [upd_same, upd_same]
  · rw [upd_ne e, upd_ne e, upd_ne e]
end FR
namespace FR
open PySem PySem.Spec PyProof.Rows L2
variable [TheW]
/-! ## [k for d in o.f.values() for k in d] -/
def keysAll : List (Key × D) → Option (List Key)
  | [] => some []
  | (_, x) :: r => (dctOf x).bind fun ks => (keysAll r).bind fun rest => some (ks.map (·.1) ++ rest)
theorem RpK.keys {K : PySem.W.Frag} {U : Hp} : ∀ {us : List (Key × V)} {ds : List (Key × D)}, RpK K U us ds → us.map (·.1) = ds.map (·.1)
  | _, _, .nil => rfl
  | _, _, .cons a b => by rw [List.map_cons, List.map_cons, RpK.keys b]
theorem vals_keys {K : PySem.W.Frag} {U : Hp} : ∀ {us : List (Key × V)} {kvs : List (Key × D)} {ks : List Key}, RpK K U us kvs → keysAll kvs = some ks → ∃ qs : List (Addr × List Key), us.map (·.2) = qs.map (fun q => V.ref q.1) ∧ (∀ q ∈ qs, ∃ uq, Rd U q.1 (.dK uq) ∧ uq.map (·.1) = q.2) ∧ qs.flatMap (·.2) = ks
  | _, _, ks, .nil, h => by cases h; exact ⟨[], rfl, (fun q hq => absurd hq (List.not_mem_nil)), rfl⟩
  | _, _, ks, .cons (d := x) a b, h => by
    obtain ⟨ks1, h1, h⟩ := bind_inv h
    obtain ⟨rest, h2, h⟩ := bind_inv h
    cases h
    cases dctOf_inv h1
    obtain ⟨qs, e1, e2, e3⟩ := vals_keys b h2
    cases a with
    | @dct q uq _ hq hr =>
      refine ⟨(q, ks1.map (·.1)) :: qs, by rw [List.map_cons, List.map_cons, e1], fun z hz => ?_, by rw [List.flatMap_cons, e3]⟩
      rcases List.mem_cons.mp hz with rfl | hz
      · exact ⟨uq, hq, hr.keys⟩
      · exact e2 z hz
def isDK : Option HO → Bool
  | some (.dK _) => true
  | _ => false
/-- the walk itself, over a heap in which all these are locked -/
theorem vk_run {K : PySem.W.Frag} {C p dx d : Addr} {f : Str} {i a b : Nat} {sl : List Nat} {σ : L2.St} {HL : Hp} {fvs : List (Str × V)} {o : Obj} {us : List (Key × V)} {qs : List (Addr × List Key)} {Q : VK}
    (c : Cls K C) (na : NoAttr K C f) (hi : σ[i]? = some (some (.ref p))) (hp : HL p = some (.ins C dx fvs)) (hf : fvs.lookup f = some (.ref d)) (hd : HL d = some (.frz o (.dK us)))
    (hu : us.map (·.2) = qs.map fun q => V.ref q.1) (hq : ∀ q ∈ qs, ∃ o uq, HL q.1 = some (.frz o (.dK uq)) ∧ uq.map (·.1) = q.2) (ha : a ∈ sl) (la : a < σ.length) (lb : b < σ.length) (hsz : (qs.flatMap (·.2)).length ≤ sizeLine)
    (q : ∀ Da, HL Da = none → Q (.ref Da) (upd HL Da (.lst ((qs.flatMap (·.2)).map kV)))) :
    tLc2 (iVals (tFld K (tVar i) f)) (gName a) tYes (iKeys (tVar a)) (gName b) tYes (tVar b) sl [b] σ HL Q := by
  refine ⟨.ref p, hi, p, C, dx, fvs, .ref d, rfl, hp, c, na, hf, d, o, us, rfl, hd, fun Da hDa => ?_⟩
  have lu : us.length = qs.length := by have := congrArg List.length hu; simpa using this
  have nd : d ≠ Da := ne_of_none hd hDa
  refine ⟨fun i m H => m = us.length - i ∧ i ≤ us.length ∧ H = upd HL Da (.lst (((qs.take i).flatMap (·.2)).map kV)), ⟨us.length, by simp, Nat.zero_le _, rfl⟩, ?_⟩
  rintro i m H ⟨rfl, hi, rfl⟩
  by_cases hlt : i < us.length
  · refine .inr ⟨⟨by rw [upd_ne nd]; exact hd, hlt⟩, fun H' => i + 1 ≤ us.length ∧ H' = upd HL Da (.lst (((qs.take (i + 1)).flatMap (·.2)).map kV)), fun H' z => ⟨_, by omega, rfl, z⟩, ?_⟩
    rintro x H' ⟨rfl, k, hk⟩
    have hx : (qs.map fun q => V.ref q.1)[i]? = some x := by rw [← hu, List.getElem?_map, hk]; rfl
    rw [List.getElem?_map] at hx
    obtain ⟨⟨q0, ks0⟩, hq0, hx⟩ := Option.map_eq_some_iff.mp hx
    subst hx
    obtain ⟨o0, uq, h0, h1⟩ := hq _ (List.mem_of_getElem? hq0)
    dsimp only at h0 h1
    have n0 : q0 ≠ Da := ne_of_none h0 hDa
    have lw : (L2.wipe σ sl).length = σ.length := wipe_length _ _
    refine ⟨by rw [wipe_put ha]; exact wipe_twice, ?_⟩
    unfold tYes
    dsimp only
    rw [if_pos rfl]
    refine ⟨.ref q0, by rw [List.getElem?_set_self (by rw [lw]; exact la)], q0, o0, rfl, .inl ⟨uq, by rw [upd_ne n0]; exact h0, ?_⟩⟩
    have et : (qs.take (i + 1)).flatMap (·.2) = (qs.take i).flatMap (·.2) ++ ks0 := by
      rw [List.take_succ, hq0]
      simp
    refine ⟨fun j k H => k = uq.length - j ∧ j ≤ uq.length ∧ H = upd HL Da (.lst (((qs.take i).flatMap (·.2) ++ (uq.take j).map (·.1)).map kV)), ⟨_, rfl, Nat.zero_le _, by simp⟩, ?_⟩
    rintro j k2 H ⟨rfl, hj, rfl⟩
    by_cases hlt1 : j < uq.length
    · refine .inr ⟨⟨by rw [upd_ne n0]; exact h0, hlt1⟩, fun H' => j + 1 ≤ uq.length ∧ H' = upd HL Da (.lst (((qs.take i).flatMap (·.2) ++ (uq.take (j + 1)).map (·.1)).map kV)), fun H' z => ⟨_, by omega, rfl, z⟩, ?_⟩
      rintro y H' ⟨rfl, ky, vy, hky, rfl⟩
      refine ⟨by rw [wipe_put (by simp)]; exact wipe_twice, ?_⟩
      rw [if_pos rfl]
      refine ⟨kV ky, ?_, _, upd_same, ?_, hlt1, ?_⟩
      · rw [List.getElem?_set_self]
        rw [wipe_length, List.length_set, lw]
        exact lb
      · rw [List.length_map, List.length_append, List.length_map, List.length_take]
        have e1 : (qs.flatMap (·.2)) = (qs.take i).flatMap (·.2) ++ (ks0 ++ (qs.drop (i + 1)).flatMap (·.2)) := by
          conv => lhs; rw [← List.take_append_drop (i + 1) qs]
          rw [List.flatMap_append, et, List.append_assoc]
        have e2 : uq.length = ks0.length := by rw [← h1, List.length_map]
        rw [e1, List.length_append, List.length_append] at hsz
        omega
      · rw [upd_two]
        congr 2
        rw [List.take_succ, hky]
        simp
    · have ej : j = uq.length := by omega
      subst ej
      refine .inl ⟨⟨by rw [upd_ne n0]; exact h0, Nat.le_refl _⟩, hlt, ?_⟩
      rw [et, List.take_length, h1]
  · have ei : i = us.length := by omega
    subst ei
    refine .inl ⟨⟨by rw [upd_ne nd]; exact hd, Nat.le_refl _⟩, ?_⟩
    have := q Da hDa
    rw [lu, List.take_length]
    exact this
def xValsKeys (C : Addr) (f : Str) (i a b : Nat) (sl : List Nat) (hs : (sl.elem a) = true) : Ex := ⟨fun K => tLocks (tLc2 (iVals (tFld K (tVar i) f)) (gName a) tYes (iKeys (tVar a)) (gName b) tYes (tVar b) sl [b]),
  fun env => (atEnv env[i]?).bind fun x => (insOf C x).bind fun fs => (fs.lookup f).bind fun v => (dctOf v).bind fun kvs => (keysAll kvs).bind fun ks => when (szOk ks.length && Nat.blt a env.length && Nat.blt b env.length) (some (.lst (ks.map keyD))), fun K => Cls K C ∧ NoAttr K C f, fun {W n env dd Φ} nd h q σ stk vs H Q w kk => by
  obtain ⟨x, h1, h⟩ := bind_inv h
  obtain ⟨fs, h2, h⟩ := bind_inv h
  obtain ⟨v, h3, h⟩ := bind_inv h
  obtain ⟨kvs, h4, h⟩ := bind_inv h
  obtain ⟨ks, h5, h⟩ := bind_inv h
  obtain ⟨h6, h⟩ := when_inv h
  cases h
  rw [Bool.and_eq_true, Bool.and_eq_true] at h6
  obtain ⟨a0, dx0, rfl⟩ := insOf_inv h2
  cases dctOf_inv h4
  have lenv := w.envLen
  obtain ⟨p, dx, fvs, d, us, qs, e1, e2, e3, e4, e5, e6, e7⟩ : ∃ (p dx : Addr) (fvs : List (Str × V)) (d : Addr) (us : List (Key × V)) (qs : List (Addr × List Key)), σ[i]? = some (some (.ref p)) ∧ H p = some (.ins C dx fvs) ∧ fvs.lookup f = some (.ref d) ∧ Rd H d (.dK us) ∧ us.map (·.2) = qs.map (fun q => V.ref q.1) ∧ (∀ q ∈ qs, ∃ uq, Rd H q.1 (.dK uq) ∧ uq.map (·.1) = q.2) ∧ qs.flatMap (·.2) = ks := by
    obtain ⟨k1, hh, pp, M1, M2, a, nd, bb, c⟩ := w
    obtain ⟨v, e, r⟩ := bb.getD (atEnv_inv h1)
    cases r with
    | @ins p0 _ dx1 _ _ fvs _ hp hr =>
      obtain ⟨u, hu, ru⟩ := hr.lookup h3
      cases ru with
      | @dct d us _ hd hk =>
        obtain ⟨qs, g1, g2, g3⟩ := vals_keys hk h5
        refine ⟨p0, dx1, fvs, d, us, qs, e, (era_some hp).1, hu, same_rd (era_sub _ _) hd, g1, fun q hq => ?_, g3⟩
        obtain ⟨uq, y1, y2⟩ := g2 q hq
        exact ⟨uq, same_rd (era_sub _ _) y1, y2⟩
  obtain ⟨L, nL, mL⟩ := nodup_of (fun b => isDK (H b) = true) (d :: qs.map (·.1))
  have lk : ∀ HL, Lkd H HL L → ∀ b, b ∈ d :: qs.map (·.1) → ∀ u, Rd H b (.dK u) → ∃ o, HL b = some (.frz o (.dK u)) := fun HL hL b hb u hu => by
    rcases hu with hu | ⟨o, hu⟩
    · exact hL.2 b ((mL b).mpr ⟨hb, by rw [hu]; rfl⟩) _ hu
    · refine ⟨o, ?_⟩
      rw [hL.1 b fun z => ?_]
      · exact hu
      · have := ((mL b).mp z).2
        rw [hu] at this
        cases this
  refine ⟨L, lk_run (fun HL v H' => ∃ Da, HL Da = none ∧ v = .ref Da ∧ H' = upd HL Da (.lst (ks.map kV))) L nL (fun b hb => ?_) (fun HL hL Q2 hq => ?_) fun HL v H' hL hp => ?_⟩
  · have hz := ((mL b).mp hb).2
    cases e : H b with
    | none => rw [e] at hz; cases hz
    | some u => rw [e] at hz; cases u <;> first | exact ⟨_, rfl, trivial⟩ | cases hz
  · obtain ⟨o, ho⟩ := lk HL hL d (by simp) us e4
    have hp' : HL p = some (.ins C dx fvs) := by
      rw [hL.1 p fun z => ?_]
      · exact e2
      · have := ((mL p).mp z).2
        rw [e2] at this
        cases this
    refine vk_run nd.1 nd.2 e1 hp' e3 ho e5 (fun q hq => ?_) (by simpa using hs) ?_ ?_ ?_ fun Da hDa => ?_
    · obtain ⟨uq, y1, y2⟩ := e6 q hq
      obtain ⟨o', y3⟩ := lk HL hL q.1 (List.mem_cons_of_mem _ (List.mem_map.mpr ⟨q, hq, rfl⟩)) uq y1
      exact ⟨o', uq, y3, y2⟩
    · rw [lenv]; exact Nat.le_of_ble_eq_true h6.1.2
    · rw [lenv]; exact Nat.le_of_ble_eq_true h6.2
    · rw [e7]; exact szOk_le h6.1.1
    · rw [e7]; exact hq _ _ ⟨Da, hDa, rfl, rfl⟩
  · obtain ⟨Da, hDa, rfl, rfl⟩ := hp
    have inL : ∀ b ∈ L, ∃ o u, HL b = some (.frz o u) := fun b hb => by
      have hz := ((mL b).mp hb).2
      cases e : H b with
      | none => rw [e] at hz; cases hz
      | some u => obtain ⟨o, ho⟩ := hL.2 b hb u e; exact ⟨o, u, ho⟩
    have nDa : Da ∉ L := fun z => by
      obtain ⟨o, u, e⟩ := inL Da z
      rw [hDa] at e; cases e
    refine ⟨fun b hb => ?_, fun H'' g1 g2 => ?_⟩
    · rw [upd_ne]
      rintro rfl
      exact nDa hb
    · have eH : H'' = upd H Da (.lst (ks.map kV)) := by
        funext b
        by_cases hb : b ∈ L
        · rw [g2 b hb, upd_ne]
          rintro rfl
          exact nDa hb
        · rw [g1 b hb]
          by_cases z : b = Da
          · subst z; rw [upd_same, upd_same]
          · rw [upd_ne z, upd_ne z, hL.1 b hb]
      rw [eH]
      have hn : H Da = none := by rw [← hL.1 Da nDa]; exact hDa
      have rl : ∀ (U : Hp) (l : List Key), RpL W.K U (l.map kV) (l.map keyD) := fun U l => by
        induction l with
        | nil => exact .nil
        | cons k l ih => exact .cons (by cases k with | inl i => exact .int i | inr x => exact .str x) ih
      exact kk _ _ n _ q (Wd.new (ds := []) (us := []) w rfl hn fun U hu _ => .lst hu (rl U ks))⟩
end FR
namespace FR
open PySem PySem.Spec PyProof.Rows L2
variable [TheW]
/-! ## set(a list of texts) -/
abbrev nSet (w : World) : Obj := { cls := .type "set", dict := none, data := .set #[] 0 (.fresh 0 0 (!w.params.followText "set-order")) }
section
variable {P : Program} {w : World}
/-- the keys that a set has after some texts -/
def seen : List Str → List Str
  | [] => []
  | x :: xs => if x ∈ seen xs then seen xs else x :: seen xs
theorem mem_seen {x : Str} : ∀ {l : List Str}, x ∈ seen l ↔ x ∈ l
  | [] => Iff.rfl
  | y :: l => by
    unfold seen
    split
    · rename_i h
      rw [mem_seen, List.mem_cons]
      constructor
      · exact .inr
      · rintro (rfl | z)
        · exact mem_seen.mp h
        · exact z
    · rw [List.mem_cons, List.mem_cons, mem_seen]
theorem nodup_seen : ∀ l : List Str, (seen l).Nodup
  | [] => List.nodup_nil
  | y :: l => by
    unfold seen
    split
    · exact nodup_seen l
    · rename_i h; exact List.nodup_cons.mpr ⟨h, nodup_seen l⟩
theorem seen_le : ∀ l : List Str, (seen l).length ≤ l.length
  | [] => Nat.le_refl _
  | y :: l => by
    unfold seen
    have := seen_le l
    split
    · rw [List.length_cons]; omega
    · rw [List.length_cons, List.length_cons]; omega
theorem SetW.at {h h' : Heap} {a : Addr} {ks : List Str} (k : ∀ o, h.get? a = some o → h'.get? a = some o) (S : SetW (PySem.strKind P w) h a ks) : SetW (PySem.strKind P w) h' a ks := by
  obtain ⟨o, es, ep, t, ho, r⟩ := S
  exact ⟨o, es, ep, t, k o ho, r⟩
theorem setW_new {h : Heap} {a : Addr} (ho : h.get? a = some (nSet w)) : SetW (PySem.strKind P w) h a [] :=
  ⟨_, #[], 0, _, ho, ⟨rfl, rfl, rfl⟩, rfl, fun e he => absurd he (by simp), ⟨[], by simp, .nil⟩, List.nodup_nil, by decide, rfl, List.Pairwise.nil, by
    show _ ∨ (!w.params.followText "set-order") = true
    cases w.params.followText "set-order" <;> simp⟩
variable {A : Around} {E : Value → Shared → Prop} {s : Shared}
theorem upd_texts {I : Addr} {fp wr : List Addr} {G : Array GenState → Array GenState → Prop} {n : Nat} {Pv : Nat → Value → Prop} {St : Nat → Shared → Prop} {R : Result → Shared → Prop}
    (W : WalksS P w A.in1 I fp wr G n Pv St) (S : Addr) (hSf : S ∉ fp) (xs : List Str) (hn : n = xs.length) (hb : xs.length + 1 < scanBound) (hval : ∀ i v, Pv i v → ∃ z t, xs[i]? = some z ∧ v = .str z t) :
    ∀ (k i : Nat) (s : Shared), n - i = k → i ≤ n → St i s → SetW (PySem.strKind P w) s.heap S (seen (xs.take i).reverse) →
      (∀ s', Moved (S :: wr) G s s' → SetW (PySem.strKind P w) s'.heap S (seen xs.reverse) → R (.ok (.ret .none)) s') → codeAny (model P w) A (.builtin "set.update.loop" ⟨[.ref S, .ref I], []⟩) R s := by
  have hSw : S ∉ wr := fun z => hSf (W.sub _ z)
  have up : ∀ b ∈ wr, b ∈ S :: wr := fun b z => List.mem_cons_of_mem _ z
  intro k
  induction k with
  | zero =>
    intro i s hk hi hst hS hR
    obtain rfl : i = n := by omega
    refine codeAny_builtin F.entry_set_update_loop (?_ : wpAny _ (A.under _) _ _ _ _)
    rw [Around.under_plainId F.plain_set_update_loop _]
    refine wpAny_bind (W.done s _ _ hst fun s' hm => (?_ : wpAny _ A.in1 (ret Value.none) _ _ s'))
    have e : xs.take i = xs := List.take_of_length_le (by omega)
    rw [e] at hS
    exact wpAny_pure (hR s' (hm.mono up) (hS.at fun o q => hm.heap S o hSw q))
  | succ k ih =>
    intro i s hk hi hst hS hR
    have lt : i < n := by omega
    refine codeAny_builtin F.entry_set_update_loop (?_ : wpAny _ (A.under _) _ _ _ _)
    rw [Around.under_plainId F.plain_set_update_loop _]
    refine wpAny_bind (W.item i s _ _ lt hst fun v s' hP hst' hm => ?_)
    obtain ⟨z, t, hz, rfl⟩ := hval i v hP
    have hS1 := hS.at (h' := s'.heap) fun o q => hm.heap S o hSw q
    refine (wpAny_bind (wpAny_holding ?_) : wpAny _ A.in1 (holding [Value.str z t] (setAdd S (.str z t)) >>= _) _ _ s')
    unfold setAdd
    refine wpAny_holding (wpAny_bind ((PySem.strKind P w).pyHash (k := z) (strKind_is _ _ _ _) ?_))
    have hlen : (seen (xs.take i).reverse).length + 1 < scanBound := by
      have q := seen_le (xs.take i).reverse
      rw [List.length_reverse, List.length_take] at q
      omega
    refine setW_add (s := { s' with toks := s'.toks + 1 }) (knd := PySem.strKind P w) (strKind_is _ _ _ _) rfl hS1 hlen fun h' bb hsb hS2 => ?_
    have e : (xs.take (i + 1)).reverse = z :: (xs.take i).reverse := by
      rw [List.take_succ, hz]
      simp
    have hS3 : SetW (PySem.strKind P w) h' S (seen (xs.take (i + 1)).reverse) := by
      rw [e]
      unfold seen
      exact hS2
    refine wpAny_pure ⟨plainId_quiet F.plain_set_update_loop _, ih (i + 1) _ (by omega) lt (W.frame _ s' _ _ hst' (Nat.le_succ _) fun b hbf o q => ?_) hS3 fun s2 hm2 hS4 => hR s2 (Moved.trans W.gtrans ((hm.mono up).then_heap (Nat.le_succ _) fun b o nb q => ?_) hm2) hS4⟩
    · exact (hsb.2 b fun z : b = S => hSf (z ▸ hbf)).trans q
    · exact (hsb.2 b fun z : b = S => nb (by rw [z]; exact List.mem_cons_self)).trans q
end
end FR
namespace FR
open PySem PySem.Spec PyProof.Rows L2
variable [TheW]
section
variable {P : Program} {w : World} {A : Around} {E : Value → Shared → Prop} {s : Shared}
theorem call_set_texts {l : Addr} {items : Array Value} (xs : List Str) {Q : Value → Shared → Prop} (hh : A.handled = none) (hl : s.heap.IsList l items) (hit : StrsAre items.toList xs) (hb : xs.length + 1 < scanBound)
    (h : ∀ (h' : Heap) (tk : Nat), SetW (PySem.strKind P w) h' s.heap.objs.size (seen xs.reverse) → (∀ b o, s.heap.get? b = some o → h'.get? b = some o) → Q (.ref s.heap.objs.size) { s with heap := h', toks := tk }) :
    wpAny (model P w) A (call (.type "set") [.ref l]) Q E s := by
  have isz : items.size = xs.length := by rw [← StrsAre.len_eq hit, Array.length_toList]
  obtain ⟨c, tl, hmro⟩ := F.called_set.mro
  have hmade := F.called_set.made; have hsub := F.called_set.sub
  refine wpAny_call (codeAny_of_tree (?_ : wpAny _ _ (callAny (.type "set") _) _ _ _))
  refine wpAny_pure ⟨Code.quiet_builtin _ (by decide +kernel), codeAny_builtin F.entry_type_call ?_⟩
  rw [Around.under_plain (weight_type_call_type "set" [.ref l] []) rfl]
  have h1 := F.called_set.notType; have h2 := F.called_set.canCreate; have hct := F.typeCall_set_1 (.ref l)
  repeat (any_goals (first | assumption | wp_step))
  refine codeAny_mono (code_set_led1 (.ref l) (E := E) (Q₁ := fun obj s₁ => obj = .ref s.heap.objs.size ∧ s₁ = { s with heap := s.heap.push (nSet w) }) ⟨rfl, rfl⟩) fun r s₁ hr => ?_
  cases r with
  | error e => exact hr
  | ok fl =>
    cases fl with
    | ret obj =>
      obtain ⟨rfl, rfl⟩ := hr
      have hS : (s.heap.push (nSet w)).get? s.heap.objs.size = some (nSet w) := Heap.get?_push_size _ rfl
      have hT : Shared.TypeIs { s with heap := s.heap.push (nSet w) } (.ref s.heap.objs.size) "set" := ⟨_, hS, rfl⟩
      have hli := F.called_set.init.lookup; have hbi := F.called_set.init.bind (.ref s.heap.objs.size)
      repeat (any_goals (first | assumption | wp_step))
      refine codeAny_mono (codeAny_call_builtin (R := wants (fun r s₂ => r = .none ∧ ∃ h' tk, s₂ = { s with heap := h', toks := tk } ∧ SetW (PySem.strKind P w) h' s.heap.objs.size (seen xs.reverse) ∧ (∀ b o, s.heap.get? b = some o → h'.get? b = some o)) E) F.called_set.init.plain F.entry_set_init (check_set_init_1 hT ?_)) fun r₂ s₂ hr₂ => ?_
      · obtain ⟨⟨ocls, odict, odata, oslots⟩, hol, hcl, nl, hdl⟩ := hl
        dsimp only at hcl hdl
        subst hcl hdl
        have hol' : (s.heap.push (nSet w)).get? l = some { cls := .type "list", dict := odict, data := .seq items nl, slots := oslots } := Heap.get?_push_of_some _ hol
        have hsls := PySem.F.sub_list_set; have hslf := PySem.F.sub_list_frozenset
        have hne : (Value.type "list" == Value.type "dict") = false := by decide
        have hl1 : (s.heap.push (nSet w)).IsList l items := ⟨_, hol', rfl, nl, rfl⟩
        unfold Builtin.«set.__init__» noKeywords Builtin.Frozenset.updateFrom
        generalize hPI : pyIter = PI
        wp_walk
        subst hPI
        refine wpAny_pyIter_list hl1 (wpAny_bind (wpAny_runValue ?_))
        have lS : l < s.heap.objs.size := Heap.lt_size hol
        have zz : (s.heap.push (nSet w)).objs.size = s.heap.objs.size + 1 := Heap.size_push ..
        have nI : l ≠ (s.heap.push (nSet w)).objs.size := fun z => by rw [zz] at z; exact Nat.ne_of_lt (Nat.lt_succ_of_lt lS) z
        have hSf : s.heap.objs.size ∉ [(s.heap.push (nSet w)).objs.size, l] := by
          rw [zz]
          simp only [List.mem_cons, List.not_mem_nil, or_false, not_or]
          exact ⟨Nat.ne_of_lt (Nat.lt_succ_self _), fun z => Nat.ne_of_lt lS z.symm⟩
        have hval : ∀ (i : Nat) (v : Value), items[i]? = some v → ∃ z t, xs[i]? = some z ∧ v = .str z t := fun i v hv => by
          have hi : i < xs.length := by rw [← isz]; exact (Array.getElem?_eq_some_iff.mp hv).1
          obtain ⟨t, e⟩ := SS.strs_at hit i v (by rw [Array.getElem?_toList]; exact hv)
          refine ⟨xs[i], t, List.getElem?_eq_getElem hi, ?_⟩
          rw [e, List.getD_eq_getElem?_getD, List.getElem?_eq_getElem hi, Option.getD_some]
        refine upd_texts ((Walks.list (by simp [hh]) _ l nI items).toS) s.heap.objs.size hSf xs isz hb hval (items.size - 0) 0 _ (by omega) (Nat.zero_le _) ⟨⟨_, Heap.get?_push_size _ rfl, rfl, rfl⟩, (hl1.push _)⟩ ?hS0 ?hR
        case hS0 => exact setW_new (Heap.get?_push_of_some _ hS)
        case hR =>
          intro s' hm hS'
          obtain ⟨h', g2, d', tk', os'⟩ := s'
          obtain rfl : g2 = s.gens := hm.gens
          obtain rfl : d' = s.drawn := hm.drawn
          obtain rfl : os' = s.os := hm.os
          show wpAny _ _ _ _ _ _
          refine wpAny_pure ?_
          show wpAny _ _ (ret Value.none) _ _ _; refine wpAny_pure ⟨rfl, h', tk', rfl, hS', fun b o e => hm.heap b o ?_ (Heap.get?_push_of_some _ (Heap.get?_push_of_some _ e))⟩
          have lb : b < s.heap.objs.size := Heap.lt_size e
          simp only [List.mem_cons, List.not_mem_nil, or_false, not_or]
          exact ⟨Nat.ne_of_lt lb, fun z => Nat.ne_of_lt (Nat.lt_succ_of_lt lb) (by rw [zz] at z; exact z)⟩
      · cases r₂ with
        | error e => exact hr₂
        | ok fl₂ =>
          cases fl₂ with
          | ret r =>
            obtain ⟨rfl, h', tk, rfl, hS', hk'⟩ := hr₂
            repeat (any_goals (first | assumption | wp_step))
            exact h _ _ hS' hk'
          | _ => exact hr₂.elim
    | _ => exact hr.elim
/-- sorted(a set of texts) -/
theorem sorted_texts {a : Addr} {ks : List Str} {Q : Value → Shared → Prop} (S : SetW (PySem.strKind P w) s.heap a ks) (hh : A.handled = none) (h64 : ks.length < 64)
    (hQ : ∀ s' p (out : Array Value) (c : Nat) (ys : List Str), (∀ b o, s.heap.get? b = some o → s'.heap.get? b = some o) → s'.gens = s.gens → s'.os = s.os → s.heap.objs.size ≤ p → s'.heap.get? p = some (seqObj "list" out c) → StrsAre out.toList ys → ys.Perm ks → sortedS ys = true → Q (.ref p) s') :
    wpAny (model P w) A (call (.builtin "sorted") [.ref a]) Q E s := by
  obtain ⟨o, es, ep, t, ho, hex, hd, hel, ⟨l, pl, hp⟩, nd, hb, hf, hr, hl⟩ := S
  refine Calls.call_function_entry kind_sorted plain_sorted entry_sorted (args_sorted1 _) ?_
  unfold Builtin.«sorted»
  refine wpAny_bind (m := checkCount "sorted" 1 1 _) (wpAny_pure (wpAny_bind (collect_set (A := A.in1) hh ⟨o, ho, hex.1, hd⟩ hf hb hr hl fun s1 vs k1 hz g1 o1 pm => ?_)))
  have pv : vs.Perm (l.map (·.2)) := pm.trans (pl.symm.map _)
  have sa : ∀ {l : List (Int × Value)} {ks : List Str}, Paired (fun e k => (PySem.strKind P w).is k e.2 = true) l ks → StrsAre (l.map (·.2)) ks := fun {l ks} q => by
    induction q with
    | nil => exact .nil
    | @cons e k _ _ r _ ih =>
      obtain ⟨t, et⟩ : ∃ t, e.2 = .str k t := by
        obtain ⟨h1, v⟩ := e
        dsimp only at r ⊢
        cases v with
        | str z t =>
          have : z = k := by simpa [PySem.strKind, Value.isStrOf] using r
          exact ⟨t, by rw [this]⟩
        | _ => simp [PySem.strKind, Value.isStrOf] at r
      rw [List.map_cons, et]
      exact .cons k t ih
  have hl1 := sa hp
  have hvs : StrsAre vs (vs.map PyProof.Rows.strOf) := strsAre_map vs fun v hv => hl1.all v (pv.mem_iff.mp hv)
  have hzp : (vs.map PyProof.Rows.strOf).Perm ks := by
    have q := pv.map PyProof.Rows.strOf
    rwa [hl1.strs] at q
  have hvl : vs.length = ks.length := by rw [← List.length_map (f := PyProof.Rows.strOf), hzp.length_eq]
  refine wpAny_bind (wpAny_newList ?_ (by rw [hvl, sizeLine_eq]; omega))
  have hoL : (s1.heap.push (seqObj "list" vs.toArray 0)).get? s1.heap.objs.size = some (seqObj "list" vs.toArray 0) := Heap.get?_push_size _ rfl
  refine wpAny_bind (wpAny_holding (wpAny_call_entry slot_list_sort ⟨_, hoL, rfl⟩ entry_list_sort (list_sort_treeK strKind_oneLt hoL hvs.keysOf (fun v₁ v₂ rest e => keyKind_strs (by rw [← e]; exact hvs)) (by rw [hvl]; exact h64) fun st' q1 q2 => ⟨_, rfl, ?_⟩) (args_list_sort _)))
  obtain ⟨ys, y1, y2, y3⟩ := sorted_out_str hvs q1 q2
  obtain ⟨c, hc⟩ := sortedHeap_at (vs := vs) (out := (arrOf st').map (·.2)) hoL
  refine wpAny_pure ⟨_, rfl, hQ _ s1.heap.objs.size _ c ys (fun b u e => ?_) g1 o1 hz hc y1 (y2.trans hzp) y3⟩
  have q := k1 b u e
  have lt := Heap.lt_size q
  refine ((sortedHeap_old (Nat.ne_of_lt lt) (Nat.lt_of_lt_of_le lt ?_)).trans (Heap.get?_push_of_some _ q) : (sortedHeap (s1.heap.push (seqObj "list" vs.toArray 0)) s1.heap.objs.size vs ((arrOf st').map (·.2))).get? b = some u)
  exact Nat.le_of_lt (by rw [Heap.size_push]; exact Nat.lt_succ_self _)
end
end FR
namespace FR
open PySem PySem.Spec PyProof.Rows L2
variable [TheW]
/-! ## texts sorted -/
def ltB (a b : Str) : Bool := decide (a.cps.toList < b.cps.toList)
def insS (x : Str) : List Str → List Str
  | [] => [x]
  | y :: l => if ltB y x = true then y :: insS x l else x :: y :: l
def sortS : List Str → List Str
  | [] => []
  | x :: l => insS x (sortS l)
theorem insS_perm (x : Str) : ∀ l : List Str, (insS x l).Perm (x :: l)
  | [] => .refl _
  | y :: l => by
    unfold insS
    split
    · exact ((insS_perm x l).cons y).trans (.swap x y l)
    · exact .refl _
theorem sortS_perm : ∀ l : List Str, (sortS l).Perm l
  | [] => .refl _
  | x :: l => (insS_perm x (sortS l)).trans ((sortS_perm l).cons x)
def leB (a b : Str) : Prop := ltB b a = false
theorem leB_total (a b : Str) : leB a b ∨ leB b a := by
  unfold leB ltB
  rw [decide_eq_false_iff_not, decide_eq_false_iff_not]
  by_cases h : b.cps.toList < a.cps.toList
  · exact .inr (List.lt_asymm h)
  · exact .inl h
theorem leB_trans {a b c : Str} (h1 : leB a b) (h2 : leB b c) : leB a c := by
  unfold leB ltB at *
  rw [decide_eq_false_iff_not] at *
  exact (List.le_trans (h1 : a.cps.toList ≤ b.cps.toList) (h2 : b.cps.toList ≤ c.cps.toList) : a.cps.toList ≤ c.cps.toList)
theorem leB_anti {a b : Str} (h1 : leB a b) (h2 : leB b a) : a = b := by
  unfold leB ltB at *
  rw [decide_eq_false_iff_not] at *
  have e : a.cps.toList = b.cps.toList := List.le_antisymm (h1 : a.cps.toList ≤ b.cps.toList) (h2 : b.cps.toList ≤ a.cps.toList)
  obtain ⟨x⟩ := a
  obtain ⟨y⟩ := b
  congr 1
  exact Array.toList_inj.mp e
theorem insS_sorted (x : Str) : ∀ {l : List Str}, l.Pairwise leB → (insS x l).Pairwise leB
  | [], _ => by simp [insS]
  | y :: l, h => by
    obtain ⟨h1, h2⟩ := List.pairwise_cons.mp h
    unfold insS
    split
    · rename_i c
      refine List.pairwise_cons.mpr ⟨fun z hz => ?_, insS_sorted x h2⟩
      rcases List.mem_cons.mp ((insS_perm x l).mem_iff.mp hz) with rfl | hz
      · rcases leB_total y z with t | t
        · exact t
        · unfold leB at t; rw [t] at c; cases c
      · exact h1 z hz
    · rename_i c
      have hxy : leB x y := by unfold leB; simpa using c
      refine List.pairwise_cons.mpr ⟨fun z hz => ?_, h⟩
      rcases List.mem_cons.mp hz with rfl | hz
      · exact hxy
      · exact leB_trans hxy (h1 z hz)
theorem sortS_sorted : ∀ l : List Str, (sortS l).Pairwise leB
  | [] => .nil
  | x :: l => insS_sorted x (sortS_sorted l)
theorem sorted_one : ∀ {l m : List Str}, l.Perm m → l.Pairwise leB → m.Pairwise leB → l = m
  | [], m, p, _, _ => (List.nil_perm.mp p).symm ▸ rfl
  | x :: l, [], p, _, _ => by simp at p
  | x :: l, y :: m, p, h1, h2 => by
    obtain ⟨a1, a2⟩ := List.pairwise_cons.mp h1
    obtain ⟨b1, b2⟩ := List.pairwise_cons.mp h2
    have e : x = y := by
      rcases List.mem_cons.mp (p.mem_iff.mp List.mem_cons_self) with e | e
      · exact e
      · rcases List.mem_cons.mp (p.mem_iff.mpr (List.mem_cons_self (a := y) (l := m))) with f | f
        · exact f.symm
        · exact leB_anti (a1 y f) (b1 x e)
    subst e
    rw [sorted_one ((List.perm_cons x).mp p) a2 b2]
theorem rising_pw : ∀ (p : Str) (l : List Str), risingS p l = true → (p :: l).Pairwise leB
  | p, [], _ => by simp
  | p, x :: l, h => by
    have h' : (!ltCps x.cps.toList p.cps.toList && risingS x l) = true := h
    rw [Bool.and_eq_true, Bool.not_eq_true', ltCps_eq] at h'
    have ih := rising_pw x l h'.2
    obtain ⟨a1, a2⟩ := List.pairwise_cons.mp ih
    have hpx : leB p x := h'.1
    refine List.pairwise_cons.mpr ⟨fun z hz => ?_, ih⟩
    rcases List.mem_cons.mp hz with rfl | hz
    · exact hpx
    · exact leB_trans hpx (a1 z hz)
theorem sortedS_pw : ∀ l : List Str, sortedS l = true → l.Pairwise leB
  | [], _ => .nil
  | x :: l, h => rising_pw x l h
theorem sorted_is {ys xs : List Str} (p : ys.Perm xs) (h : sortedS ys = true) : ys = sortS xs := sorted_one (p.trans (sortS_perm xs).symm) (sortedS_pw ys h) (sortS_sorted xs)

/-! ## len(set(e)), sorted(set(e)) -/
def tLenSt (K : PySem.W.Frag) (te : TE) : TE := fun σ H Q => te σ H fun x H1 => ∃ (a : Addr) (xs : List Str), x = .ref a ∧ SqL K H1 a (xs.map V.str) ∧ xs.length + 1 < scanBound ∧ Q (.int (seen xs.reverse).length) H1
def tSortSt (K : PySem.W.Frag) (te : TE) : TE := fun σ H Q => te σ H fun x H1 => ∃ (a : Addr) (xs : List Str), x = .ref a ∧ SqL K H1 a (xs.map V.str) ∧ xs.length < 64 ∧ ∀ p, H1 p = none → Q (.ref p) (upd H1 p (.lst ((sortS (seen xs.reverse)).map V.str)))
section
variable {X : Cx} {K : PySem.W.Frag}
theorem r_lenSet {a : Expr} {ta : TE} {p p2 q pos : Pos} (hK : X.K = K) (hc : X.calm = true) (hg : Gl X "len") (hm : X.mg "len" = none) (hg2 : Gl X "set") (hm2 : X.mg "set" = none) (ha : PE X a ta)
    (na : starEach [a] X.env = (false, eval a X.env) :: starEach [] X.env := by rfl) : PE X (.Call (.Name "len" p) [.Call (.Name "set" p2) [a] [] q] [] pos) (tLenSt K ta) := by
  subst hK
  refine ⟨fun pins s σ H Q I h => Call_ (ld_blt I hg hm boot_len (PyProof.Rows.callWith_builtin1 (PyProof.Rows.args_cons ?_ rfl) rfl rfl))⟩
  refine Call_ (ld_blt I hg2 hm2 boot_set (PyProof.Rows.callWith_type1 (PyProof.Rows.args_cons (thn (ha.run pins s σ H _ I h) fun v s1 z => PyProof.Rows.args_nil ?_) na) na rfl))
  obtain ⟨x, H1, I1, r1, l, xs, rfl, hq, hb, q1⟩ := z
  cases r1
  obtain ⟨its, r, pl, _⟩ := I1.list hq
  refine call_set_texts xs (I1.ok.hd hc) pl.isList (by simpa using strsAre_of r) hb fun h' tk S hk => PyProof.Rows.args_nil ?_
  obtain ⟨o, es, ep, t, ho, hex, hd, _, ⟨l2, pl2, hp2⟩, _, hsz, hf, _⟩ := S
  have hn : es.size = (seen xs.reverse).length := by rw [← paired_len hp2, pl2.length_eq, Array.length_toList]
  have I2 : Inv X pins σ H1 { s1 with heap := h', toks := tk } := I1.kept hk
  have sb : scanBound < 2 ^ 63 := by decide
  exact call_len_set ho hex hd hf (by omega) ⟨.int (seen xs.reverse).length, H1, I2.tok _, ⟨_, by rw [hn]⟩, q1⟩
theorem r_sortSet {a : Expr} {ta : TE} {p p2 q pos : Pos} (hK : X.K = K) (hc : X.calm = true) (hg : Gl X "sorted") (hm : X.mg "sorted" = none) (hg2 : Gl X "set") (hm2 : X.mg "set" = none) (ha : PE X a ta)
    (na : starEach [a] X.env = (false, eval a X.env) :: starEach [] X.env := by rfl) : PE X (.Call (.Name "sorted" p) [.Call (.Name "set" p2) [a] [] q] [] pos) (tSortSt K ta) := by
  subst hK
  refine ⟨fun pins s σ H Q I h => Call_ (ld_blt I hg hm (show bootBuiltins "sorted" = some (.builtin "sorted") by decide +kernel) (PyProof.Rows.callWith_builtin1 (PyProof.Rows.args_cons ?_ rfl) rfl rfl))⟩
  refine Call_ (ld_blt I hg2 hm2 boot_set (PyProof.Rows.callWith_type1 (PyProof.Rows.args_cons (thn (ha.run pins s σ H _ I h) fun v s1 z => PyProof.Rows.args_nil ?_) na) na rfl))
  obtain ⟨x, H1, I1, r1, l, xs, rfl, hq, h64, q1⟩ := z
  cases r1
  obtain ⟨its, r, pl, _⟩ := I1.list hq
  refine call_set_texts xs (I1.ok.hd hc) pl.isList (by simpa using strsAre_of r) (by unfold scanBound; omega) fun h' tk S hk => PyProof.Rows.args_nil ?_
  have I2 : Inv X pins σ H1 { s1 with heap := h', toks := tk } := I1.kept hk
  have l64 : (seen xs.reverse).length < 64 := by
    have := seen_le xs.reverse
    rw [List.length_reverse] at this
    omega
  refine sorted_texts S (I1.ok.hd hc) l64 fun s' p out c ys k g o hp hgt hi hpm hs => ?_
  have e := sorted_is hpm hs
  have hlen : (ys.map V.str).length ≤ sizeLine := by rw [List.length_map, hpm.length_eq, sizeLine_eq]; omega
  have hn : H1 p = none := I2.hok.fresh hp
  have J : Inv X pins σ (upd H1 p (.lst (ys.map V.str))) { ({ s1 with heap := h', toks := tk } : Shared) with heap := s'.heap, gens := s'.gens, drawn := s'.drawn, toks := s'.toks } :=
    I2.call (ch := []) (Un.laid k hp hn) (I2.hok.laid k hp ⟨hlen, out.toList, c, vals_of_strs hi, hgt⟩) (by rw [g]; exact I2.bare) (fun _ z => nomatch z)
  have es : s' = { s1 with heap := s'.heap, gens := s'.gens, drawn := s'.drawn, toks := s'.toks } := by
    cases s'; cases s1; cases o; rfl
  rw [es]
  exact ⟨.ref p, _, J, rfl, by rw [e]; exact q1 p hn⟩
end
def textsOf : List D → Option (List Str)
  | [] => some []
  | .str b :: ds => (textsOf ds).bind fun bs => some (b :: bs)
  | _ => none
theorem textsOf_inv : ∀ {ds : List D} {bs : List Str}, textsOf ds = some bs → ds = bs.map D.str
  | [], bs, h => by cases h; rfl
  | d :: ds, bs, h => by
    cases d with
    | str b =>
      obtain ⟨cs, h1, h2⟩ := bind_inv (o := textsOf ds) (f := fun bs => some (b :: bs)) h
      cases h2
      rw [textsOf_inv h1]
      rfl
    | _ => cases h
theorem RpL.strs {K : PySem.W.Frag} {H : Hp} : ∀ {vs : List V} {bs : List Str}, RpL K H vs (bs.map D.str) → vs = bs.map V.str
  | _, [], .nil => rfl
  | _, b :: bs, .cons h r => by
    have e := RpL.strs r
    cases h
    rw [e]; rfl
theorem RpL.ofStrs {K : PySem.W.Frag} {H : Hp} : ∀ bs : List Str, RpL K H (bs.map V.str) (bs.map D.str)
  | [] => .nil
  | b :: bs => .cons (.str b) (RpL.ofStrs bs)
def xLenSet (e : Ex) : Ex := ⟨fun K => tLenSt K (e.te K), fun env => (e.ev env).bind fun x => (lstOf x).bind fun xs => (textsOf xs).bind fun ss => when (Nat.ble ss.length 1000) (some (.int (seen ss.reverse).length)), e.nd, fun {W n env d Φ} k h q σ stk vs H Q w kk => by
  obtain ⟨x, h1, h⟩ := bind_inv h
  obtain ⟨xs, h2, h⟩ := bind_inv h
  obtain ⟨ss, h3, h⟩ := bind_inv h
  obtain ⟨h4, h⟩ := when_inv h
  cases h
  cases lstOf_inv h2
  cases textsOf_inv h3
  refine e.ok (Φ := fun d m => d = .lst (ss.map D.str) ∧ m = n) k h1 ⟨rfl, rfl⟩ σ stk vs H _ w fun v d n1 H1 q1 w1 => ?_
  obtain ⟨rfl, rfl⟩ := q1
  have t := w1.top
  cases t with
  | @lst a us _ ha hr => exact ⟨a, ss, rfl, .inl (.inl (by rw [← hr.strs]; exact ha)), by have := Nat.le_of_ble_eq_true h4; unfold scanBound; omega, kk _ _ n1 H1 q (w1.pop.push fun U _ => .int _)⟩⟩
def xSortSet (e : Ex) : Ex := ⟨fun K => tSortSt K (e.te K), fun env => (e.ev env).bind fun x => (lstOf x).bind fun xs => (textsOf xs).bind fun ss => when (Nat.ble ss.length 63) (some (.lst ((sortS (seen ss.reverse)).map D.str))), e.nd, fun {W n env d Φ} k h q σ stk vs H Q w kk => by
  obtain ⟨x, h1, h⟩ := bind_inv h
  obtain ⟨xs, h2, h⟩ := bind_inv h
  obtain ⟨ss, h3, h⟩ := bind_inv h
  obtain ⟨h4, h⟩ := when_inv h
  cases h
  cases lstOf_inv h2
  cases textsOf_inv h3
  refine e.ok (Φ := fun d m => d = .lst (ss.map D.str) ∧ m = n) k h1 ⟨rfl, rfl⟩ σ stk vs H _ w fun v d n1 H1 q1 w1 => ?_
  obtain ⟨rfl, rfl⟩ := q1
  have t := w1.top
  cases t with
  | @lst a us _ ha hr => exact ⟨a, ss, rfl, .inl (.inl (by rw [← hr.strs]; exact ha)), by have := Nat.le_of_ble_eq_true h4; omega, fun p hp => kk _ _ n1 _ q (Wd.new (ds := []) (us := []) w1.pop rfl hp fun U hu _ => .lst hu (RpL.ofStrs _))⟩⟩
end FR
namespace FR
open PySem PySem.Spec PyProof.Rows L2
variable [TheW]
/-! ## dict(a tuple of pairs) -/
theorem choose_list {α β : Type} : ∀ {l : List α} {R : Nat → α → β → Prop}, (∀ j a, l[j]? = some a → ∃ b, R j a b) → ∃ m : List β, m.length = l.length ∧ ∀ j a b, l[j]? = some a → m[j]? = some b → R j a b
  | [], R, _ => ⟨[], rfl, fun j a b h => by simp at h⟩
  | x :: l, R, h => by
    obtain ⟨y, hy⟩ := h 0 x rfl
    obtain ⟨m, h1, h2⟩ := choose_list (l := l) (R := fun j => R (j + 1)) fun j a e => h (j + 1) a (by simpa using e)
    refine ⟨y :: m, by simp [h1], fun j a b ea eb => ?_⟩
    cases j with
    | zero =>
      simp only [List.getElem?_cons_zero, Option.some.injEq] at ea eb
      subst ea eb
      exact hy
    | succ j => exact h2 j a b (by simpa using ea) (by simpa using eb)
def rDictT (K : PySem.W.Frag) : List V → Hp → VK → Prop := fun xs H Q => ∃ (a : Addr) (ps : List Addr) (kvs : List (Key × V)), xs = [.ref a] ∧ PT H a (ps.map V.ref) ∧ Paired (fun p kv => SqT K H p [kV kv.1, kv.2]) ps kvs ∧ ∀ p, H p = none → Q (.ref p) (upd H p (.dK (mergeK [] kvs)))
theorem k_dictT {X : Cx} {K : PySem.W.Frag} (hK : X.K = K) (hcalm : X.calm = true) : CallR X (.type "dict") (rDictT K) := by
  subst hK
  intro pins s σ H xs us Q I r q
  obtain ⟨a, ps, kvs, ex, hq, hp, q⟩ := q
  subst ex
  obtain ⟨u, eu, rx⟩ := vals1 r
  subst eu
  cases rx
  obtain ⟨o, hq, hdn⟩ := hq
  obtain ⟨hob, hz, its, rv, o', ho', hcl, n, hdat⟩ := (show ObjOk X.prog X.w H s.heap a (.frz o (.tup (ps.map V.ref))) from I.hok a _ hq)
  rw [hob] at ho'
  cases ho'
  have ei := refs_at rv
  subst ei
  rw [List.length_map] at hz
  obtain ⟨prs, rel, hl, hpr⟩ := pairs_of I hp
  obtain ⟨ks, k1, k2⟩ := choose_list (R := fun j (q : Key × Value) (u : Value × Value) => u.2 = q.2 ∧ ∃ b, ps[j]? = some b ∧ IsTup s.heap b #[u.1, q.2] ∧ keyIs q.1 u.1 = true) fun j q e => by
    obtain ⟨b, u, e1, e2, e3⟩ := hpr j q e
    exact ⟨(u, q.2), rfl, b, e1, e2, e3⟩
  have lk : ks.length = ps.length := k1.trans hl
  have at_ : ∀ j k v, ks[j]? = some (k, v) → ∃ (q : Key × Value) (b : Addr), prs[j]? = some q ∧ v = q.2 ∧ ps[j]? = some b ∧ IsTup s.heap b #[k, v] ∧ keyIs q.1 k = true := fun j k v e => by
    have hj : j < prs.length := by rw [← k1]; exact (List.getElem?_eq_some_iff.mp e).1
    obtain ⟨h1, b, h2, h3, h4⟩ := k2 j prs[j] (k, v) (List.getElem?_eq_getElem hj) e
    dsimp only at h1 h3 h4
    exact ⟨prs[j], b, List.getElem?_eq_getElem hj, h1, h2, by rw [h1]; exact h3, h4⟩
  refine PySem.call_dict_pairs (knd := mixKind X.prog X.w) (kvs := prs) (PairArg.tuple a (ps.map Value.ref).toArray (fun j => ps.getD j 0) ks) (I.ok.hd hcalm) ⟨⟨_, n, hob, hcl, hdn, hdat⟩, by simp [lk], fun j k v e => ?_⟩ ⟨k1.symm, fun i key v e => ?_⟩ (by rw [lk]; exact hz) fun h' tk hd' k => ?_
  · obtain ⟨q, b, e1, e2, e3, e4, e5⟩ := at_ j k v e
    have eg : ps.getD j 0 = b := by rw [List.getD_eq_getElem?_getD, e3]; rfl
    refine ⟨?_, .inl ?_⟩
    · show _ = some (Value.ref (ps.getD j 0))
      rw [eg]; simp [e3]
    · show s.heap.IsTuple (ps.getD j 0) _
      rw [eg]; exact e4
  · obtain ⟨q, b, e1, e2, e3, e4, e5⟩ := at_ i key v e
    exact ⟨q.1, by rw [e1, e2], e5⟩
  · have hm : (s.heap.objs.size == sysModules) = false := beq_eq_false_iff_ne.mpr (Nat.ne_of_gt I.big)
    have hlen : (mergeK [] kvs).length ≤ sizeLine := by
      have := length_mergeK kvs []
      rw [List.length_nil, Nat.zero_add, rel.length, hl] at this
      omega
    exact ⟨.ref s.heap.objs.size, upd H s.heap.objs.size (.dK (mergeK [] kvs)), I.laid (t' := tk) (fun b o e => k b o (by simp) e) (Nat.le_refl _) (show ObjOk X.prog X.w _ _ _ (.dK (mergeK [] kvs)) from ⟨hlen, hm, merged [] prs, KV.merge rel .nil, hd'⟩), rfl, q _ (I.hok.fresh (Nat.le_refl _))⟩
def pairsOf_ : List D → Option (List (Key × D))
  | [] => some []
  | .tup [k, v] :: ds => (keyOf k).bind fun key => (pairsOf_ ds).bind fun r => some ((key, v) :: r)
  | _ => none
theorem pairsOf_inv : ∀ {ds : List D} {kvs : List (Key × D)}, pairsOf_ ds = some kvs → ds = kvs.map pairD
  | [], kvs, h => by cases h; rfl
  | d :: ds, kvs, h => by
    unfold pairsOf_ at h
    split at h
    · rename_i e; cases e
    · rename_i k v ds' e
      cases e
      obtain ⟨key, h1, h⟩ := bind_inv h
      obtain ⟨r, h2, h⟩ := bind_inv h
      cases h
      cases keyOf_inv h1
      rw [pairsOf_inv h2]
      rfl
    · cases h
theorem op_dictT {W : Wo} {n : Nat} {Φ : D → Nat → Prop} {kvs : List (Key × D)} (q : Φ (.dct (mergeKD [] kvs)) n) : OpN W (rDictT W.K) n [.tup (kvs.map pairD)] Φ :=
  opN1 fun env σ stk vs vx H Q w kk => by
    obtain ⟨U, s, h, f, g⟩ := w.view1
    cases h with
    | tup a b =>
      obtain ⟨ps, us, rfl, h2, h3⟩ := RpL.pairs b
      refine ⟨_, ps, us, rfl, same_pt s a, pairedImp (fun p kv z => same_sqT s z) h2, fun p hp => ?_⟩
      obtain ⟨U', s', e, g⟩ := g p (.dK (mergeK [] us)) hp
      exact kk _ _ n _ q (g _ _ (.dct (.inl e) ((RpK.merge .nil h3).mono s')))
def mDictT : SemN := mN1 (fun K => rDictT K) (fun x => match x with
    | .tup xs => (pairsOf_ xs).bind fun kvs => some (.dct (mergeKD [] kvs))
    | _ => none) fun {W n x d Φ} h q => by
  cases x with
  | tup xs => obtain ⟨bs, h1, h2⟩ := bind_inv h; cases h2; cases pairsOf_inv h1; exact op_dictT q
  | _ => cases h
def mDictL : SemN := mN1 (fun K => rDictP K) (fun x => match x with
    | .lst xs => (pairsOf_ xs).bind fun kvs => some (.dct (mergeKD [] kvs))
    | _ => none) fun {W n x d Φ} h q => by
  cases x with
  | lst xs => obtain ⟨bs, h1, h2⟩ := bind_inv h; cases h2; cases pairsOf_inv h1; exact op_dictP q
  | _ => cases h
def mDict : SemN := mDictT.or mDictL
theorem r_dict {X : Cx} {K : PySem.W.Frag} (hK : X.K = K) (hcalm : X.calm = true) : CallR X (.type "dict") (mDict.r K) := (k_dictT hK hcalm).or (k_dictP hK hcalm)

/-! ## methods and makers by their evaluators -/
section
variable {P : Program} {w : World} {K : PySem.W.Frag} {mg : Str → Option Value} {base : Heap} {k : Nat} {x m q : Str} {st : Stmt} {ps N : List Str} {C : Addr} {r : TS}
theorem has_M (Dd : MethIn K C m q st ps) (S : FnScope N ps (defScope st)) (np : Nat) (hnp : ps.length = np) (body : Stx) (hn : body.nd K)
    (hb : ∀ (f : Addr) (cdv : Value) (B : Around) (out : List Env) (t : Shared) (H : Hp) (E : XK), B.guards = some [] → Room k (B.deeper (envOfC q (defScope st) t.heap.objs.size f cdv)) →
      PSs (cxOf CX0 P w K mg base N q (defScope st) f cdv B out t H E).nox (defBody st) r) (e : r = body.ts K) :
    HasM P w K mg base (k + 1) C m ps (spD K (CF (fnF N np body))) := by
  subst e
  refine hasM_D Dd S (fun ds Φ h => ?_) fun f cdv B out t H E gu hr => ⟨body.ts K, hb f cdv B out t H E gu hr, fun W ds Φ hK hC => ?_⟩
  · obtain ⟨d, h, _⟩ := h
    rw [hnp]
    exact Nat.eq_of_beq_eq_true (when_inv h).1
  · subst hK
    obtain ⟨d, h, q⟩ := hC
    exact body_ok hn (when_inv h).2 q
/-- the fields that an __init__ gives, at any address -/
def Gives (N : List Str) (np : Nat) (C : Addr) (body : Stx) (f : List D → Option (List (Str × D))) : Prop := ∀ ds fs, f ds = some fs → ds.length + 1 = np ∧ ∀ p dx, ∃ env, body.ev (envI N (.ins C p dx []) ds) = some (.nx env) ∧ env[0]? = some (.own (.ins C p dx fs))
theorem has_I (Dd : InitIn K mg C x q st ps) (S : FnScope N ps (defScope st)) (np : Nat) (hnp : ps.length = np) (body : Stx) (hn : body.nd K) (f : List D → Option (List (Str × D))) (hf : Gives N np C body f)
    (hb : ∀ (f : Addr) (cdv : Value) (B : Around) (out : List Env) (t : Shared) (H : Hp) (E : XK), B.guards = some [] → Room k (B.deeper (envOfC q (defScope st) t.heap.objs.size f cdv)) →
      PSs (cxOf CX0 P w K mg base N q (defScope st) f cdv B out t H E).nox (defBody st) r) (e : r = body.ts K) :
    HasI P w K mg base (k + 1) C x ps (spI K C (CI f)) := by
  subst e
  refine hasI_I Dd S (fun ds Φ h => ?_) fun f' cdv B out t H E gu hr => ⟨body.ts K, hb f' cdv B out t H E gu hr, fun W p dx ds Ψ hK hC => ?_⟩
  · obtain ⟨d, h, _⟩ := h
    rw [hnp]
    exact (hf _ _ h).1
  · subst hK
    obtain ⟨fs, h, q⟩ := hC
    obtain ⟨env, e1, e2⟩ := (hf _ _ h).2 p dx
    exact body.ok (fl := .nx env) hn e1 ⟨fs, e2, q⟩
end
end FR
namespace FR
open PySem PySem.Spec PyProof.Rows L2
variable [TheW]
theorem te_xFld (C : Addr) (f : Str) (o : Ex) (K : PySem.W.Frag) : (xFld C f o).te K = (tFld K (o.te K) f) := rfl
theorem te_xMeth (C : Addr) (m : Str) (f : List D → Option D) (o : Ex) (as : Exs) (K : PySem.W.Frag) : (xMeth C m f o as).te K = (tMeth C m (spD K (CF f)) [] E0 (o.te K) (as.ta K)) := rfl
theorem te_xMake (C : Addr) (f : List D → Option (List (Str × D))) (as : Exs) (K : PySem.W.Frag) : (xMake C f as).te K = (tMake C (spI K C (CI f)) [] E0 (as.ta K)) := rfl
theorem te_sFld_ (C : Addr) (i : Nat) (f : Str) (e : Ex) (K : PySem.W.Frag) : (sFld_ C i f e).ts K = (sFld K (tVar i) (e.te K) f) := rfl
theorem te_xDGet (d k : Ex) (K : PySem.W.Frag) : (xDGet d k).te K = (tDGet (d.te K) (k.te K)) := rfl
theorem te_xDIn (k d : Ex) (K : PySem.W.Frag) : (xDIn k d).te K = (tDIn (k.te K) (d.te K)) := rfl
theorem te_xDGet2 (d k x : Ex) (K : PySem.W.Frag) : (xDGet2 d k x).te K = (tDGet2 (d.te K) (k.te K) (x.te K)) := rfl
theorem te_xDc (it : Itx) (g : Tgx) (t : Ts) (kx vx : Ex) (sl : List Nat) (hL : (g.L.all fun i => sl.elem i) = true) (K : PySem.W.Frag) : (xDc it g t kx vx sl hL).te K = (tDc (it.ti K) (g.tg K) (t.tt K) (kx.te K) (vx.te K) sl) := rfl
theorem te_xValsKeys (C : Addr) (f : Str) (i a b : Nat) (sl : List Nat) (hs : (sl.elem a) = true) (K : PySem.W.Frag) : (xValsKeys C f i a b sl hs).te K = (tLocks (tLc2 (iVals (tFld K (tVar i) f)) (gName a) tYes (iKeys (tVar a)) (gName b) tYes (tVar b) sl [b])) := rfl
theorem te_xLenSet (e : Ex) (K : PySem.W.Frag) : (xLenSet e).te K = (tLenSt K (e.te K)) := rfl
theorem te_xSortSet (e : Ex) (K : PySem.W.Frag) : (xSortSet e).te K = (tSortSt K (e.te K)) := rfl
end FR
namespace FR
open PySem PySem.Spec PyProof.Rows L2
variable [TheW]
section
variable {X : Cx} {K : PySem.W.Frag} {e o value : Expr} {f : Str} {pos pos' : Pos} {ta tv : TE}
theorem r_fld (hK : X.K = K) (he : PE X e ta) (hb : attributeBase e f X.env (eval e X.env) = eval e X.env) : PE X (.Attribute e f pos) (tFld K ta f) := by subst hK; exact pe_fld he hb
theorem rs_fld (hK : X.K = K) (ha : PE X o ta) (hv : PE X value tv) (hs : swapsWith value (some (.Attribute o f pos')) pos.line X.env = pure false) : PS X (.Assign [.Attribute o f pos'] value pos) (sFld K ta tv f) := by subst hK; exact ps_fld ha hv hs
end
end FR
namespace FR
open PySem PySem.Spec PyProof.Rows L2
variable [TheW]
theorem ev_xVar (i : Nat) (env : List E) : (xVar i).ev env = (atEnv env[i]?) := rfl
theorem ev_xInt (i : Int) (env : List E) : (xInt i).ev env = (some (.int i)) := rfl
theorem ev_xStr (i : Str) (env : List E) : (xStr i).ev env = (some (.str i)) := rfl
theorem ev_xBl (i : Bool) (env : List E) : (xBl i).ev env = (some (.bl i)) := rfl
theorem ev_xTy (i : String) (env : List E) : (xTy i).ev env = (some (.ty i)) := rfl
theorem ev_xNon (env : List E) : (xNon).ev env = (some .non) := rfl
theorem ev_aNil (env : List E) : (aNil).ev env = (some []) := rfl
theorem ev_aCons (a : Ex) (b : Exs) (env : List E) : (aCons a b).ev env = ((a.ev env).bind fun x => (b.ev env).bind fun xs => some (x :: xs)) := rfl
theorem ev_xTup (a : Exs) (env : List E) : (xTup a).ev env = ((a.ev env).bind fun xs => when (szOk xs.length) (some (.tup xs))) := rfl
theorem ev_xLst (a : Exs) (env : List E) : (xLst a).ev env = ((a.ev env).bind fun xs => when (szOk xs.length) (some (.lst xs))) := rfl
theorem ev_xOp2 (s : Sem2) (a b : Ex) (env : List E) : (xOp2 s a b).ev env = ((a.ev env).bind fun x => (b.ev env).bind fun y => s.f x y) := rfl
theorem ev_xUn (s : Sem1) (a : Ex) (env : List E) : (xUn s a).ev env = ((a.ev env).bind fun x => s.f x) := rfl
theorem ev_xFn (s : SemN) (a : Exs) (env : List E) : (xFn s a).ev env = ((a.ev env).bind fun x => s.f x) := rfl
theorem ev_xCall (f : List D → Option D) (a : Exs) (env : List E) : (xCall f a).ev env = ((a.ev env).bind fun x => f x) := rfl
theorem ev_tB_ (a : Ex) (env : List E) : (tB_ a).ev env = ((a.ev env).bind blOf) := rfl
theorem ev_tTest_ (a : Ex) (env : List E) : (tTest_ a).ev env = ((a.ev env).bind blOf) := rfl
theorem ev_tYes_ (env : List E) : (tYes_).ev env = (some true) := rfl
theorem ev_tNot_ (a : Ts) (env : List E) : (tNot_ a).ev env = ((a.ev env).bind fun b => some (!b)) := rfl
theorem ev_tAnd_ (a b : Ts) (env : List E) : (tAnd_ a b).ev env = ((a.ev env).bind fun c => match c with
    | true => b.ev env
    | false => some false) := rfl
theorem ev_tOr_ (a b : Ts) (env : List E) : (tOr_ a b).ev env = ((a.ev env).bind fun c => match c with
    | true => some true
    | false => b.ev env) := rfl
theorem ev_xAnd (a b : Ex) (env : List E) : (xAnd a b).ev env = ((a.ev env).bind fun x => (blOf x).bind fun c => match c with
    | true => b.ev env
    | false => some (.bl false)) := rfl
theorem ev_xOr (a b : Ex) (env : List E) : (xOr a b).ev env = ((a.ev env).bind fun x => (blOf x).bind fun c => match c with
    | true => some (.bl true)
    | false => b.ev env) := rfl
theorem ev_xNot (a : Ex) (env : List E) : (xNot a).ev env = ((a.ev env).bind fun x => (blOf x).bind fun c => some (.bl (!c))) := rfl
theorem ev_xIf (t : Ts) (a b : Ex) (env : List E) : (xIf t a b).ev env = ((t.ev env).bind fun c => match c with
    | true => a.ev env
    | false => b.ev env) := rfl
theorem ev_xChain (s s' : Sem2) (a b c : Ex) (env : List E) : (xChain s s' a b c).ev env = ((a.ev env).bind fun x => (b.ev env).bind fun y => (s.f x y).bind fun z => (blOf z).bind fun t => match t with
    | true => (c.ev env).bind fun e => s'.f y e
    | false => some (.bl false)) := rfl
theorem ev_poNone (env : List E) : (poNone).ev env = (some Option.none) := rfl
theorem ev_poSome (a : Ex) (env : List E) : (poSome a).ev env = ((a.ev env).bind fun x => (inOf x).bind fun i => some (some i)) := rfl
theorem ev_gName_ (i : Nat) (d : D) (env : List E) : (gName_ i).ev d env = (some (env.set i (.d d))) := rfl
theorem ev_gNil_ (ds : List D) (env : List E) : (gNil_).ev ds env = (match ds with
    | [] => some env
    | _ => none) := rfl
theorem ev_gCons_ (g : Tgx) (gs : Tgs) (ds : List D) (env : List E) : (gCons_ g gs).ev ds env = (match ds with
    | [] => none
    | d :: ds => (g.ev d env).bind fun env1 => gs.ev ds env1) := rfl
theorem ev_gTup_ (k : Nat) (gs : Tgs) (d : D) (env : List E) : (gTup_ k gs).ev d env = (match d with
    | .tup ds => when (Nat.beq ds.length k) (gs.ev ds env)
    | .tpk ds => when (Nat.beq ds.length k) (gs.ev ds env)
    | _ => none) := rfl
theorem ev_xLc (it : Itx) (g : Tgx) (t : Ts) (e : Ex) (sl : List Nat) (hL : (g.L.all fun i => sl.elem i) = true) (env : List E) : (xLc it g t e sl hL).ev env = ((it.ev env).bind fun ds => when (szOk ds.length) ((goLc g t e (wipeE (env.map hideE) sl) ds).bind fun ys => some (.lst ys))) := rfl
theorem ev_sNext (env : List E) : (sNext).ev env = (some (.nx env)) := rfl
theorem ev_sSeq (a b : Stx) (env : List E) : (sSeq a b).ev env = ((a.ev env).bind fun fl => match fl with
    | .nx env' => b.ev env'
    | fl => some fl) := rfl
theorem ev_sDrop (e : Ex) (env : List E) : (sDrop e).ev env = ((e.ev env).bind fun _ => some (.nx env)) := rfl
theorem ev_sRet (e : Ex) (env : List E) : (sRet e).ev env = ((e.ev env).bind fun d => some (.rt d)) := rfl
theorem ev_sRetN (env : List E) : (sRetN).ev env = (some (.rt .non)) := rfl
theorem ev_sIf (t : Ts) (a b : Stx) (env : List E) : (sIf t a b).ev env = ((t.ev env).bind fun c => match c with
    | true => a.ev env
    | false => b.ev env) := rfl
theorem ev_sAsg (e : Ex) (g : Tgx) (env : List E) : (sAsg e g).ev env = ((e.ev env).bind fun d => (g.ev d env).bind fun env' => some (.nx env')) := rfl
theorem ev_sBreak (env : List E) : (sBreak).ev env = (some (.bk env)) := rfl
theorem ev_sCont (env : List E) : (sCont).ev env = (some (.ct env)) := rfl
theorem ev_sFor (it : Itx) (g : Tgx) (b : Stx) (env : List E) : (sFor it g b).ev env = ((it.ev env).bind fun ds => goFor g b ds env) := rfl
theorem ev_sWhile (fuel : List E → Nat) (t : Ts) (b : Stx) (env : List E) : (sWhile fuel t b).ev env = (goWhile t b (fuel env) env) := rfl
theorem ev_jSeq (e : Ex) (env : List E) : (jSeq e).ev env = ((e.ev env).bind itemsOf) := rfl
theorem ev_jRange1 (a : Exs) (env : List E) : (jRange1 a).ev env = ((a.ev env).bind fun ds => match ds with
    | [.int j] => when (sm62 j) (some (rangeD 0 j.toNat))
    | _ => none) := rfl
theorem ev_jRange2 (a : Exs) (env : List E) : (jRange2 a).ev env = ((a.ev env).bind fun ds => match ds with
    | [.int i, .int j] => when (sm62 i && sm62 j) (some (rangeD i (j - i).toNat))
    | _ => none) := rfl
theorem ev_xSl (s : SemSl) (e : Ex) (lo hi : Po) (env : List E) : (xSl s e lo hi).ev env = ((e.ev env).bind fun x => (lo.ev env).bind fun l => (hi.ev env).bind fun h => s.f x l h) := rfl
theorem ev_xRevT (e : Ex) (env : List E) : (xRevT e).ev env = ((e.ev env).bind fun x => match x with
    | .tup xs => some (.tup xs.reverse)
    | _ => none) := rfl
theorem ev_jZip (a : Exs) (env : List E) : (jZip a).ev env = ((a.ev env).bind fun ds => match ds with
    | [.tup xs, .tup ys] => some (zipD xs ys)
    | [.lst xs, .lst ys] => some (zipD xs ys)
    | _ => none) := rfl
theorem ev_xPeek (e : Ex) (env : List E) : (xPeek e).ev env = ((e.ev (env.map frzE)).bind fun d => when (still d) (some d)) := rfl
theorem ev_tPeek (t : Ts) (env : List E) : (tPeek t).ev env = (t.ev (env.map frzE)) := rfl
theorem ev_sNever (env : List E) : (sNever).ev env = (none) := rfl
theorem ev_sFz (is : List Nat) (s : Stx) (env : List E) : (sFz is s).ev env = (s.ev (fzAt env is)) := rfl
theorem ev_sOwn (i : Nat) (env : List E) : (sOwn i).ev env = (when (freeAt (unown env i) i) (some (.nx ((unown env i).set i (.own (.lst [])))))) := rfl
theorem ev_fLst (a : Exs) (env : List E) : (fLst a).ev env = ((a.ev env).bind fun xs => when (szOk xs.length) (some (.lst xs))) := rfl
theorem ev_fLc (it : Itx) (g : Tgx) (t : Ts) (e : Ex) (sl : List Nat) (hL : (g.L.all fun i => sl.elem i) = true) (env : List E) : (fLc it g t e sl hL).ev env = ((it.ev env).bind fun ds => when (szOk ds.length) ((goLc g t e (wipeE (env.map hideE) sl) ds).bind fun ys => some (.lst ys))) := rfl
theorem ev_fListT (a : Exs) (env : List E) : (fListT a).ev env = ((a.ev env).bind fun ds => match ds with
    | [.tup xs] => some (.lst xs)
    | _ => none) := rfl
theorem ev_sSetF (i : Nat) (e : Fx) (env : List E) : (sSetF i e).ev env = (when (freeAt (unown env i) i) ((e.ev (unown env i)).bind fun d => some (.nx ((unown env i).set i (.own d))))) := rfl
theorem ev_sAppend (i : Nat) (e : Ex) (env : List E) : (sAppend i e).ev env = ((ownAt env[i]?).bind fun x => (lstOf x).bind fun xs => (e.ev env).bind fun y => when (Nat.blt xs.length 16777216) (some (.nx (env.set i (.own (.lst (xs ++ [y]))))))) := rfl
theorem ev_sExtend (i : Nat) (e : Ex) (env : List E) : (sExtend i e).ev env = ((ownAt env[i]?).bind fun x => (lstOf x).bind fun xs => (e.ev env).bind fun y => (lstOf y).bind fun ys => when (szOk (xs.length + ys.length)) (some (.nx (env.set i (.own (.lst (xs ++ ys))))))) := rfl
theorem ev_sPar (i j : Nat) (a : Exs) (env : List E) : (sPar i j a).ev env = ((a.ev env).bind fun ds => match ds with
    | [x, y] => some (.nx ((env.set i (.d x)).set j (.d y)))
    | _ => none) := rfl
theorem ev_sAugI (g : Int → Int → Int) (i : Nat) (e : Ex) (env : List E) : (sAugI g i e).ev env = ((atEnv env[i]?).bind fun x => (inOf x).bind fun a => (e.ev env).bind fun y => (inOf y).bind fun b => some (.nx (env.set i (.d (.int (g a b)))))) := rfl
theorem ev_xLc2 (it : Itx) (g : Tgx) (t : Ts) (it1 : Itx) (g1 : Tgx) (t1 : Ts) (e : Ex) (sl sl1 : List Nat) (hL : (g.L.all fun i => sl.elem i) = true) (hL1 : (g1.L.all fun i => sl1.elem i) = true) (env : List E) : (xLc2 it g t it1 g1 t1 e sl sl1 hL hL1).ev env = ((it.ev env).bind fun ds => (goLc2 g t it1 g1 t1 e (wipeE (env.map hideE) sl) sl1 ds).bind fun ys => when (szOk ys.length) (some (.lst ys))) := rfl
theorem ev_xFld (C : Addr) (f : Str) (o : Ex) (env : List E) : (xFld C f o).ev env = ((o.ev env).bind fun x => (insOf C x).bind fun fs => fs.lookup f) := rfl
theorem ev_xMeth (C : Addr) (m : Str) (f : List D → Option D) (o : Ex) (as : Exs) (env : List E) : (xMeth C m f o as).ev env = ((o.ev env).bind fun x => (insOf C x).bind fun fs => when (fs.lookup m).isNone ((as.ev env).bind fun ds => f (x :: ds))) := rfl
theorem ev_xMake (C : Addr) (f : List D → Option (List (Str × D))) (as : Exs) (env : List E) : (xMake C f as).ev env = ((as.ev env).bind fun ds => (f ds).bind fun fs => some (.ins C 0 0 fs)) := rfl
theorem ev_sFld_ (C : Addr) (i : Nat) (f : Str) (e : Ex) (env : List E) : (sFld_ C i f e).ev env = (match ownAt env[i]? with
    | some (.ins C' p dx fs) => when (Nat.beq C' C && Nat.blt fs.length 1000) ((e.ev env).bind fun y => some (.nx (env.set i (.own (.ins C p dx (putD f y fs))))))
    | _ => none) := rfl
theorem ev_xDGet (d k : Ex) (env : List E) : (xDGet d k).ev env = ((d.ev env).bind fun x => (dctOf x).bind fun kvs => (k.ev env).bind fun y => (keyOf y).bind fun key => valD kvs key) := rfl
theorem ev_xDIn (k d : Ex) (env : List E) : (xDIn k d).ev env = ((k.ev env).bind fun y => (keyOf y).bind fun key => (d.ev env).bind fun x => (dctOf x).bind fun kvs => some (.bl (valD kvs key).isSome)) := rfl
theorem ev_xDGet2 (d k x : Ex) (env : List E) : (xDGet2 d k x).ev env = ((d.ev env).bind fun v => (dctOf v).bind fun kvs => (k.ev env).bind fun y => (keyOf y).bind fun key => (x.ev env).bind fun z => some ((valD kvs key).getD z)) := rfl
theorem ev_xDc (it : Itx) (g : Tgx) (t : Ts) (kx vx : Ex) (sl : List Nat) (hL : (g.L.all fun i => sl.elem i) = true) (env : List E) : (xDc it g t kx vx sl hL).ev env = ((it.ev env).bind fun ds => when (szOk ds.length) ((goDc g t kx vx (wipeE (env.map hideE) sl) ds []).bind fun ys => some (.dct ys))) := rfl
theorem ev_xValsKeys (C : Addr) (f : Str) (i a b : Nat) (sl : List Nat) (hs : (sl.elem a) = true) (env : List E) : (xValsKeys C f i a b sl hs).ev env = ((atEnv env[i]?).bind fun x => (insOf C x).bind fun fs => (fs.lookup f).bind fun v => (dctOf v).bind fun kvs => (keysAll kvs).bind fun ks => when (szOk ks.length && Nat.blt a env.length && Nat.blt b env.length) (some (.lst (ks.map keyD)))) := rfl
theorem ev_xLenSet (e : Ex) (env : List E) : (xLenSet e).ev env = ((e.ev env).bind fun x => (lstOf x).bind fun xs => (textsOf xs).bind fun ss => when (Nat.ble ss.length 1000) (some (.int (seen ss.reverse).length))) := rfl
theorem ev_xSortSet (e : Ex) (env : List E) : (xSortSet e).ev env = ((e.ev env).bind fun x => (lstOf x).bind fun xs => (textsOf xs).bind fun ss => when (Nat.ble ss.length 63) (some (.lst ((sortS (seen ss.reverse)).map D.str)))) := rfl
end FR
namespace FR
open PySem PySem.Spec PyProof.Rows L2
variable [TheW]
/-! ## a maker's statements never look at the new address -/
def Par (C : Addr) (s : Stx) : Prop := ∀ p dx fs rest fl, s.ev (.own (.ins C 0 0 fs) :: rest) = some fl → ∃ fs' rest', fl = .nx (.own (.ins C 0 0 fs') :: rest') ∧ s.ev (.own (.ins C p dx fs) :: rest) = some (.nx (.own (.ins C p dx fs') :: rest'))
def Blind (C : Addr) (e : Ex) : Prop := ∀ p dx fs rest, e.ev (.own (.ins C p dx fs) :: rest) = e.ev (.own (.ins C 0 0 fs) :: rest)
theorem par_seq {C : Addr} {a b : Stx} (ha : Par C a) (hb : Par C b) : Par C (sSeq a b) := fun p dx fs rest fl h => by
  rw [ev_sSeq] at h ⊢
  obtain ⟨f1, h1, h2⟩ := bind_inv h
  obtain ⟨fs1, r1, rfl, h3⟩ := ha p dx fs rest f1 h1
  obtain ⟨fs2, r2, rfl, h4⟩ := hb p dx fs1 r1 fl h2
  refine ⟨fs2, r2, rfl, ?_⟩
  rw [h3]
  exact h4
theorem par_next {C : Addr} : Par C sNext := fun p dx fs rest fl h => by
  cases h
  exact ⟨fs, rest, rfl, rfl⟩
theorem par_if {C : Addr} {t : Ts} (ht : ∀ p dx fs rest, t.ev (.own (.ins C p dx fs) :: rest) = t.ev (.own (.ins C 0 0 fs) :: rest)) : Par C (sIf t sNever sNext) := fun p dx fs rest fl h => by
  rw [ev_sIf] at h ⊢
  obtain ⟨c, h1, h2⟩ := bind_inv h
  rw [ht p dx fs rest, h1]
  cases c with
  | true => cases h2
  | false => cases h2; exact ⟨fs, rest, rfl, rfl⟩
theorem par_fld {C : Addr} {f : Str} {e : Ex} (he : Blind C e) : Par C (sFld_ C 0 f e) := fun p dx fs rest fl h => by
  rw [ev_sFld_] at h ⊢
  have h' : when (Nat.beq C C && Nat.blt fs.length 1000) ((e.ev (.own (.ins C 0 0 fs) :: rest)).bind fun y => some (Fl.nx ((E.own (.ins C 0 0 (putD f y fs))) :: rest))) = some fl := h
  obtain ⟨h1, h2⟩ := when_inv h'
  obtain ⟨y, h3, h4⟩ := bind_inv h2
  cases h4
  refine ⟨putD f y fs, rest, rfl, ?_⟩
  show when (Nat.beq C C && Nat.blt fs.length 1000) ((e.ev (.own (.ins C p dx fs) :: rest)).bind fun y => some (Fl.nx ((E.own (.ins C p dx (putD f y fs))) :: rest))) = _
  rw [h1, he p dx fs rest, h3]
  rfl
theorem gives_of {N : List Str} {np : Nat} {C : Addr} {body : Stx} (hp : Par C body) : Gives N np C body (fnI N np C body) := fun ds fs h => by
  obtain ⟨h1, h2⟩ := when_inv h
  refine ⟨Nat.eq_of_beq_eq_true h1, fun p dx => ?_⟩
  cases e : body.ev (envI N (.ins C 0 0 []) ds) with
  | none => rw [e] at h2; cases h2
  | some fl =>
    obtain ⟨fs', rest, rfl, h3⟩ := hp p dx [] _ fl e
    rw [e] at h2
    cases h2
    exact ⟨_, h3, rfl⟩
end FR
namespace FR
open PySem PySem.Spec PyProof.Rows L2 RZ
variable [TheW]
/-! ## zip of three tuples -/
abbrev IsTrip (h : Heap) (T : Addr) (a b c : Value) : Prop := h.get? T = some { cls := .type "tuple", data := .seq #[a, b, c] }
structure Ap3 (z TI TO i1 i2 i3 l1 l2 l3 : Addr) : Prop where
  TIz : TI ≠ z
  TOz : TO ≠ z
  i1z : i1 ≠ z
  i2z : i2 ≠ z
  i3z : i3 ≠ z
  TITO : TI ≠ TO
  TIi1 : TI ≠ i1
  TIi2 : TI ≠ i2
  TIi3 : TI ≠ i3
  TOi1 : TO ≠ i1
  TOi2 : TO ≠ i2
  TOi3 : TO ≠ i3
  i12 : i1 ≠ i2
  i13 : i1 ≠ i3
  i23 : i2 ≠ i3
  l1z : l1 ≠ z
  l2z : l2 ≠ z
  l3z : l3 ≠ z
  l2TO : l2 ≠ TO
  l3TO : l3 ≠ TO
  l2i1 : l2 ≠ i1
  l3i1 : l3 ≠ i1
  l3i2 : l3 ≠ i2
section
variable {prog : Program} {w : World} {A : Around} {E : Value → Shared → Prop} {s : Shared} {z TI TO i1 i2 i3 l1 l2 l3 : Addr} {k1 k2 k3 : Nat} {xs ys zs : Array Value} {x y v a b c : Value}
theorem upd_trip {T : Addr} {k : Nat} {Q : Unit → Shared → Prop} (hT : IsTrip s.heap T a b c)
    (h : ∀ h', h'.get? T = some { cls := .type "tuple", data := .seq ((#[a, b, c] : Array Value).setIfInBounds k x) } → Heap.SameBut T s.heap h' → Q () { s with heap := h' }) : wpAny (model prog w) A (updateSeq T (·.setIfInBounds k x)) Q E s := by
  refine wpAny_updateSeq hT rfl (h _ ?_ (Heap.SameBut.update ..)); rw [Heap.get?_update_self _ hT rfl]; simp [Obj.mapSeq]
theorem zip3_item {Q : Value → Shared → Prop} (D : Ap3 z TI TO i1 i2 i3 l1 l2 l3) (hz : IsZip s.heap z TI TO .none) (hTI : IsTrip s.heap TI (.ref i1) (.ref i2) (.ref i3)) (hTO : IsTrip s.heap TO a b c)
    (h1 : s.heap.IsTupleIter i1 l1 k1) (h2 : s.heap.IsTupleIter i2 l2 k2) (h3 : s.heap.IsTupleIter i3 l3 k3) (hl1 : s.heap.IsTuple l1 xs) (hl2 : s.heap.IsTuple l2 ys) (hl3 : s.heap.IsTuple l3 zs) (hx : xs[k1]? = some x) (hy : ys[k2]? = some y) (hv : zs[k3]? = some v)
    (hQ : ∀ h', IsZip h' z TI TO (rawInt s.heap.objs.size) → IsTrip h' TO x y v → h'.IsTupleIter i1 l1 (k1 + 1) → h'.IsTupleIter i2 l2 (k2 + 1) → h'.IsTupleIter i3 l3 (k3 + 1) → IsTrip h' s.heap.objs.size x y v → h'.objs.size = s.heap.objs.size + 1 →
      (∀ c o, c ≠ z → c ≠ TO → c ≠ i1 → c ≠ i2 → c ≠ i3 → s.heap.get? c = some o → h'.get? c = some o) → Q (.ref s.heap.objs.size) { s with heap := h' }) :
    wpAny (model prog w) A (Builtin.«zip.__next__» ⟨[.ref z], []⟩) (fun fin s' => ∃ v, fin = .done (.ret v) ∧ Q v s') E s := by
  refine (wpAny_bind (wpAny_field hz rfl (x := .bool false) rfl ?_) : wpAny _ _ (field (.ref z) 2 >>= _) _ _ _)
  refine (wpAny_bind (wpAny_field hz rfl (x := .ref TI) rfl ?_) : wpAny _ _ (field (.ref z) 3 >>= _) _ _ _); refine wpAny_bind (wpAny_seqItems hTI rfl ?_)
  refine (wpAny_bind ?_ : wpAny _ _ (Builtin.SmallTypes.ownedTupleIsFree (.ref z) >>= _) _ _ _)
  unfold Builtin.SmallTypes.ownedTupleIsFree; refine wpAny_bind (wpAny_field hz rfl (x := .none) rfl (wpAny_pure ?_))
  simp only [if_true]
  refine wpAny_bind (wpAny_rule (wpAny_bind (wpAny_field hz rfl (x := .ref TO) rfl (wpAny_bind (wpAny_setField_rec hz (by simp) fun g1 z1 s1 => ?_)))))
  replace z1 : IsZip g1 z TI TO .ellipsis := z1
  refine wpAny_bind ?_
  simp only [List.zipIdx_cons, List.zipIdx_nil, List.forIn_cons, List.forIn_nil]
  refine wpAny_bind (wpAny_bind (wpAny_onRaise (?_ : wpAny _ _ (Builtin.SmallTypes.nextOf (.ref i1) >>= _) _ _ _)))
  refine wpAny_bind (nextOf_tuple_item (h1.extBut s1.extBut D.i1z) (hl1.extBut s1.extBut D.l1z) hx fun g2 a1 s2 => wpAny_pure ?_)
  have T2 : IsTrip g2 TO a b c := s2.extBut _ _ D.TOi1 (s1.extBut _ _ D.TOz hTO)
  refine wpAny_bind (wpAny_seqItems T2 rfl (wpAny_bind (upd_trip T2 fun g3 T3 s3 => ?_)))
  replace T3 : IsTrip g3 TO x b c := T3
  refine wpAny_bind (wpAny_letGo (wpAny_pure (wpAny_bind (wpAny_bind (wpAny_onRaise (?_ : wpAny _ _ (Builtin.SmallTypes.nextOf (.ref i2) >>= _) _ _ _))))))
  refine wpAny_bind (nextOf_tuple_item (((h2.extBut s1.extBut D.i2z).extBut s2.extBut D.i12.symm).extBut s3.extBut D.TOi2.symm) (((hl2.extBut s1.extBut D.l2z).extBut s2.extBut D.l2i1).extBut s3.extBut D.l2TO) hy fun g4 a2 s4 => wpAny_pure ?_)
  have T4 : IsTrip g4 TO x b c := s4.extBut _ _ D.TOi2 T3
  refine wpAny_bind (wpAny_seqItems T4 rfl (wpAny_bind (upd_trip T4 fun g5 T5 s5 => ?_)))
  replace T5 : IsTrip g5 TO x y c := T5
  refine wpAny_bind (wpAny_letGo (wpAny_pure (wpAny_bind (wpAny_bind (wpAny_onRaise (?_ : wpAny _ _ (Builtin.SmallTypes.nextOf (.ref i3) >>= _) _ _ _))))))
  refine wpAny_bind (nextOf_tuple_item (((((h3.extBut s1.extBut D.i3z).extBut s2.extBut D.i13.symm).extBut s3.extBut D.TOi3.symm).extBut s4.extBut D.i23.symm).extBut s5.extBut D.TOi3.symm) (((((hl3.extBut s1.extBut D.l3z).extBut s2.extBut D.l3i1).extBut s3.extBut D.l3TO).extBut s4.extBut D.l3i2).extBut s5.extBut D.l3TO) hv fun g6 a3 s6 => wpAny_pure ?_)
  have T6 : IsTrip g6 TO x y c := s6.extBut _ _ D.TOi3 T5
  refine wpAny_bind (wpAny_seqItems T6 rfl (wpAny_bind (upd_trip T6 fun g7 T7 s7 => ?_)))
  replace T7 : IsTrip g7 TO x y v := T7
  refine wpAny_bind (wpAny_letGo (wpAny_pure (wpAny_pure (wpAny_bind (wpAny_seqItems T7 rfl (wpAny_bind (wpAny_newTuple ?_)))))))
  have hsz : g7.objs.size = s.heap.objs.size := by rw [s7.1, s6.1, s5.1, s4.1, s3.1, s2.1, s1.1]
  have z7 : IsZip g7 z TI TO .ellipsis := s7.extBut _ _ D.TOz.symm (s6.extBut _ _ D.i3z.symm (s5.extBut _ _ D.TOz.symm (s4.extBut _ _ D.i2z.symm (s3.extBut _ _ D.TOz.symm (s2.extBut _ _ D.i1z.symm z1)))))
  have hk : ∀ q o, q ≠ z → q ≠ TO → q ≠ i1 → q ≠ i2 → q ≠ i3 → s.heap.get? q = some o → g7.get? q = some o := fun q o c1 c2 c3 c4 c5 e =>
    s7.extBut _ _ c2 (s6.extBut _ _ c5 (s5.extBut _ _ c2 (s4.extBut _ _ c4 (s3.extBut _ _ c2 (s2.extBut _ _ c3 (s1.extBut _ _ c1 e))))))
  have b1 : g7.IsTupleIter i1 l1 (k1 + 1) := ((((a1.extBut s3.extBut D.TOi1.symm).extBut s4.extBut D.i12).extBut s5.extBut D.TOi1.symm).extBut s6.extBut D.i13).extBut s7.extBut D.TOi1.symm
  have b2 : g7.IsTupleIter i2 l2 (k2 + 1) := ((a2.extBut s5.extBut D.TOi2.symm).extBut s6.extBut D.i23).extBut s7.extBut D.TOi2.symm
  have b3 : g7.IsTupleIter i3 l3 (k3 + 1) := a3.extBut s7.extBut D.TOi3.symm
  have ltz : z < g7.objs.size := Heap.lt_size z7
  refine (wpAny_bind ?_ : wpAny _ _ (Builtin.SmallTypes.ownedTupleHandOut (.ref z) (.ref g7.objs.size) >>= _) _ _ _)
  unfold Builtin.SmallTypes.ownedTupleHandOut
  have z8 : IsZip (g7.push { cls := .type "tuple", data := .seq #[x, y, v] }) z TI TO .ellipsis := Heap.get?_push_of_some _ z7
  refine wpAny_bind (wpAny_setField_rec z8 (by simp) fun g9 z9 s9 => ?_)
  replace z9 : IsZip g9 z TI TO (rawInt g7.objs.size) := z9
  refine wpAny_setField_rec z9 (by simp) fun g10 z10 s10 => ?_
  replace z10 : IsZip g10 z TI TO (rawInt g7.objs.size) := z10
  have up : ∀ q o, q ≠ z → g7.get? q = some o → g10.get? q = some o := fun q o c1 e => s10.extBut _ _ c1 (s9.extBut _ _ c1 (Heap.get?_push_of_some _ e))
  have T10 : IsTrip g10 g7.objs.size x y v := s10.extBut _ _ (Nat.ne_of_gt ltz) (s9.extBut _ _ (Nat.ne_of_gt ltz) (Heap.get?_push_size _ rfl))
  have e10 : g10.objs.size = g7.objs.size + 1 := by rw [s10.1, s9.1, Heap.size_push]
  rw [hsz] at z10 T10 e10
  refine wpAny_pure ⟨_, rfl, (?_ : Q (.ref g7.objs.size) _)⟩
  rw [hsz]
  exact hQ g10 z10 (up _ _ D.TOz T7) (b1.at fun o e => up _ o D.i1z e) (b2.at fun o e => up _ o D.i2z e) (b3.at fun o e => up _ o D.i3z e) T10 e10 fun q o c1 c2 c3 c4 c5 e => up q o c1 (hk q o c1 c2 c3 c4 c5 e)
theorem zip3_end {Q : Fin → Shared → Prop} (hh : A.handled = none) (D : Ap3 z TI TO i1 i2 i3 l1 l2 l3) (hz : IsZip s.heap z TI TO .none) (hTI : IsTrip s.heap TI (.ref i1) (.ref i2) (.ref i3)) (hTO : IsTrip s.heap TO a b c)
    (h1 : s.heap.IsTupleIter i1 l1 k1) (h2 : s.heap.IsTupleIter i2 l2 k2) (h3 : s.heap.IsTupleIter i3 l3 k3) (hl1 : s.heap.IsTuple l1 xs) (hl2 : s.heap.IsTuple l2 ys) (hl3 : s.heap.IsTuple l3 zs) (hend : xs[k1]? = none ∨ ys[k2]? = none ∨ zs[k3]? = none)
    (hE : ∀ h' e, (∀ c o, c ≠ z → c ≠ TO → c ≠ i1 → c ≠ i2 → c ≠ i3 → s.heap.get? c = some o → h'.get? c = some o) → (∃ o, h'.get? e = some o ∧ o.cls = .type "StopIteration") → E (.ref e) { s with heap := h' }) :
    wpAny (model prog w) A (Builtin.«zip.__next__» ⟨[.ref z], []⟩) Q E s := by
  refine (wpAny_bind (wpAny_field hz rfl (x := .bool false) rfl ?_) : wpAny _ _ (field (.ref z) 2 >>= _) _ _ _)
  refine (wpAny_bind (wpAny_field hz rfl (x := .ref TI) rfl ?_) : wpAny _ _ (field (.ref z) 3 >>= _) _ _ _); refine wpAny_bind (wpAny_seqItems hTI rfl ?_)
  refine (wpAny_bind ?_ : wpAny _ _ (Builtin.SmallTypes.ownedTupleIsFree (.ref z) >>= _) _ _ _)
  unfold Builtin.SmallTypes.ownedTupleIsFree; refine wpAny_bind (wpAny_field hz rfl (x := .none) rfl (wpAny_pure ?_))
  simp only [if_true]
  refine wpAny_bind (wpAny_rule (wpAny_bind (wpAny_field hz rfl (x := .ref TO) rfl (wpAny_bind (wpAny_setField_rec hz (by simp) fun g1 z1 s1 => ?_)))))
  replace z1 : IsZip g1 z TI TO .ellipsis := z1
  refine wpAny_bind ?_
  simp only [List.zipIdx_cons, List.zipIdx_nil, List.forIn_cons, List.forIn_nil]
  have fin : ∀ {g g' : Heap} {e : Addr}, IsZip g z TI TO .ellipsis → (∃ o, g.get? e = some o ∧ o.cls = .type "StopIteration") → Heap.SameBut z g g' → ∃ o, g'.get? e = some o ∧ o.cls = .type "StopIteration" := fun {g g' e} hz he sb => by
    obtain ⟨oe, hoe, hce⟩ := he
    have ez : e ≠ z := fun x => by subst x; rw [hz] at hoe; cases hoe; simp at hce
    exact ⟨oe, sb.extBut _ _ ez hoe, hce⟩
  refine wpAny_bind (wpAny_bind (wpAny_onRaise (?_ : wpAny _ _ (Builtin.SmallTypes.nextOf (.ref i1) >>= _) _ _ _)))
  cases hx : xs[k1]? with
  | none =>
    refine wpAny_bind (nextOf_tuple_end hh (h1.extBut s1.extBut D.i1z) (hl1.extBut s1.extBut D.l1z) hx fun g2 e s2 he => ?_)
    have z2 : IsZip g2 z TI TO .ellipsis := s2 _ _ D.i1z.symm z1
    exact wpAny_setField_rec z2 (by simp) fun g3 _ s3 => hE g3 e (fun c o c1 _ c3 _ _ x => s3.extBut _ _ c1 (s2 _ _ c3 (s1.extBut _ _ c1 x))) (fin z2 he s3)
  | some x =>
    refine wpAny_bind (nextOf_tuple_item (h1.extBut s1.extBut D.i1z) (hl1.extBut s1.extBut D.l1z) hx fun g2 a1 s2 => wpAny_pure ?_)
    have T2 : IsTrip g2 TO a b c := s2.extBut _ _ D.TOi1 (s1.extBut _ _ D.TOz hTO)
    refine wpAny_bind (wpAny_seqItems T2 rfl (wpAny_bind (upd_trip T2 fun g3 T3 s3 => ?_)))
    replace T3 : IsTrip g3 TO x b c := T3
    have z3 : IsZip g3 z TI TO .ellipsis := s3.extBut _ _ D.TOz.symm (s2.extBut _ _ D.i1z.symm z1)
    refine wpAny_bind (wpAny_letGo (wpAny_pure (wpAny_bind (wpAny_bind (wpAny_onRaise (?_ : wpAny _ _ (Builtin.SmallTypes.nextOf (.ref i2) >>= _) _ _ _))))))
    cases hy : ys[k2]? with
    | none =>
      refine wpAny_bind (nextOf_tuple_end hh (((h2.extBut s1.extBut D.i2z).extBut s2.extBut D.i12.symm).extBut s3.extBut D.TOi2.symm) (((hl2.extBut s1.extBut D.l2z).extBut s2.extBut D.l2i1).extBut s3.extBut D.l2TO) hy fun g4 e s4 he => ?_)
      have z4 : IsZip g4 z TI TO .ellipsis := s4 _ _ D.i2z.symm z3
      exact wpAny_setField_rec z4 (by simp) fun g5 _ s5 => hE g5 e (fun c o c1 c2 c3 c4 _ x => s5.extBut _ _ c1 (s4 _ _ c4 (s3.extBut _ _ c2 (s2.extBut _ _ c3 (s1.extBut _ _ c1 x))))) (fin z4 he s5)
    | some y =>
      have hv : zs[k3]? = none := by
        rcases hend with q | q | q
        · rw [hx] at q; cases q
        · rw [hy] at q; cases q
        · exact q
      refine wpAny_bind (nextOf_tuple_item (((h2.extBut s1.extBut D.i2z).extBut s2.extBut D.i12.symm).extBut s3.extBut D.TOi2.symm) (((hl2.extBut s1.extBut D.l2z).extBut s2.extBut D.l2i1).extBut s3.extBut D.l2TO) hy fun g4 a2 s4 => wpAny_pure ?_)
      have T4 : IsTrip g4 TO x b c := s4.extBut _ _ D.TOi2 T3
      refine wpAny_bind (wpAny_seqItems T4 rfl (wpAny_bind (upd_trip T4 fun g5 T5 s5 => ?_)))
      have z5 : IsZip g5 z TI TO .ellipsis := s5.extBut _ _ D.TOz.symm (s4.extBut _ _ D.i2z.symm z3)
      refine wpAny_bind (wpAny_letGo (wpAny_pure (wpAny_bind (wpAny_bind (wpAny_onRaise (?_ : wpAny _ _ (Builtin.SmallTypes.nextOf (.ref i3) >>= _) _ _ _))))))
      refine wpAny_bind (nextOf_tuple_end hh (((((h3.extBut s1.extBut D.i3z).extBut s2.extBut D.i13.symm).extBut s3.extBut D.TOi3.symm).extBut s4.extBut D.i23.symm).extBut s5.extBut D.TOi3.symm) (((((hl3.extBut s1.extBut D.l3z).extBut s2.extBut D.l3i1).extBut s3.extBut D.l3TO).extBut s4.extBut D.l3i2).extBut s5.extBut D.l3TO) hv fun g6 e s6 he => ?_)
      have z6 : IsZip g6 z TI TO .ellipsis := s6 _ _ D.i3z.symm z5
      exact wpAny_setField_rec z6 (by simp) fun g7 _ s7 => hE g7 e (fun c o c1 c2 c3 c4 c5 x => s7.extBut _ _ c1 (s6 _ _ c5 (s5.extBut _ _ c2 (s4.extBut _ _ c4 (s3.extBut _ _ c2 (s2.extBut _ _ c3 (s1.extBut _ _ c1 x))))))) (fin z6 he s7)
end
end FR
namespace FR
open PySem PySem.Spec PyProof.Rows L2 RZ
variable [TheW]
section
variable {prog : Program} {w : World} {A : Around} {E : Value → Shared → Prop} {s : Shared} {z TI TO i1 i2 i3 l1 l2 l3 : Addr} {k1 k2 k3 : Nat} {xs ys zs : Array Value} {x y v a b c : Value}
theorem next3_item {Q : Option Value → Shared → Prop} (D : Ap3 z TI TO i1 i2 i3 l1 l2 l3) (hz : IsZip s.heap z TI TO .none) (hTI : IsTrip s.heap TI (.ref i1) (.ref i2) (.ref i3)) (hTO : IsTrip s.heap TO a b c)
    (h1 : s.heap.IsTupleIter i1 l1 k1) (h2 : s.heap.IsTupleIter i2 l2 k2) (h3 : s.heap.IsTupleIter i3 l3 k3) (hl1 : s.heap.IsTuple l1 xs) (hl2 : s.heap.IsTuple l2 ys) (hl3 : s.heap.IsTuple l3 zs) (hx : xs[k1]? = some x) (hy : ys[k2]? = some y) (hv : zs[k3]? = some v)
    (hQ : ∀ h', IsZip h' z TI TO (rawInt s.heap.objs.size) → IsTrip h' TO x y v → h'.IsTupleIter i1 l1 (k1 + 1) → h'.IsTupleIter i2 l2 (k2 + 1) → h'.IsTupleIter i3 l3 (k3 + 1) → IsTrip h' s.heap.objs.size x y v → h'.objs.size = s.heap.objs.size + 1 →
      (∀ c o, c ≠ z → c ≠ TO → c ≠ i1 → c ≠ i2 → c ≠ i3 → s.heap.get? c = some o → h'.get? c = some o) → Q (some (.ref s.heap.objs.size)) { s with heap := h' }) : wpAny (model prog w) A (pyNext (.ref z)) Q E s := by
  have hT : s.TypeIs (.ref z) "zip" := ⟨_, hz, rfl⟩
  unfold pyNext
  exact wpAny_bind (wpAny_attempt (wpAny_callSpecial?_slot (name := Str.ofString "__next__") hT F.slot_zip_next (wpAny_call_entry F.slot_zip_next hT F.entry_zip_next (zip3_item D hz hTI hTO h1 h2 h3 hl1 hl2 hl3 hx hy hv fun h' a1 a2 a3 a4 a5 a6 a7 a8 => wpAny_pure (hQ h' a1 a2 a3 a4 a5 a6 a7 a8)) (F.args_zip_next_1 _))))
theorem next3_end {Q : Option Value → Shared → Prop} (hh : A.handled = none) (D : Ap3 z TI TO i1 i2 i3 l1 l2 l3) (hz : IsZip s.heap z TI TO .none) (hTI : IsTrip s.heap TI (.ref i1) (.ref i2) (.ref i3)) (hTO : IsTrip s.heap TO a b c)
    (h1 : s.heap.IsTupleIter i1 l1 k1) (h2 : s.heap.IsTupleIter i2 l2 k2) (h3 : s.heap.IsTupleIter i3 l3 k3) (hl1 : s.heap.IsTuple l1 xs) (hl2 : s.heap.IsTuple l2 ys) (hl3 : s.heap.IsTuple l3 zs) (hend : xs[k1]? = none ∨ ys[k2]? = none ∨ zs[k3]? = none)
    (hQ : ∀ h', (∀ c o, c ≠ z → c ≠ TO → c ≠ i1 → c ≠ i2 → c ≠ i3 → s.heap.get? c = some o → h'.get? c = some o) → Q none { s with heap := h' }) : wpAny (model prog w) A (pyNext (.ref z)) Q E s := by
  have hT : s.TypeIs (.ref z) "zip" := ⟨_, hz, rfl⟩
  unfold pyNext
  refine wpAny_bind (wpAny_attempt (wpAny_callSpecial?_slot (name := Str.ofString "__next__") hT F.slot_zip_next (wpAny_call_entry F.slot_zip_next hT F.entry_zip_next (zip3_end hh D hz hTI hTO h1 h2 h3 hl1 hl2 hl3 hend fun h' e hk he => ?_) (F.args_zip_next_1 _))))
  obtain ⟨o, ho, hc⟩ := he
  exact wpAny_bind (wpAny_isInstance (T := "StopIteration") (b := true) ⟨o, ho, hc⟩ isSubtype_stop (wpAny_pure (hQ _ hk)))
end
/-- three tuples walked at once -/
def Itz3 (K : PySem.W.Frag) (a b c : Addr) : It :=
  ⟨fun i H => ∃ (xs ys zs : List V) (x y v : V), SqT K H a xs ∧ SqT K H b ys ∧ SqT K H c zs ∧ xs[i]? = some x ∧ ys[i]? = some y ∧ zs[i]? = some v,
    fun i H u H' => ∃ T x y v, u = .ref T ∧ H T = none ∧ H' = upd H T (.tup [x, y, v]) ∧ (∀ xs, SqT K H a xs → xs[i]? = some x) ∧ (∀ ys, SqT K H b ys → ys[i]? = some y) ∧ ∀ zs, SqT K H c zs → zs[i]? = some v,
    fun i H => ∃ xs ys zs : List V, SqT K H a xs ∧ SqT K H b ys ∧ SqT K H c zs ∧ (xs.length ≤ i ∨ ys.length ≤ i ∨ zs.length ≤ i)⟩
theorem turn_zip3 {P : Program} {w : World} {K : PySem.W.Frag} {elts : List Expr} {kk : Nat} {tpos : Pos} {a b c z TI TO i1 i2 i3 : Addr} (D : Ap3 z TI TO i1 i2 i3 a b c) :
    Turn P w K (.Tuple elts kk tpos) (Itz3 K a b c) [z, TI, TO, i1, i2, i3] z (fun i h => IsZip h z TI TO .none ∧ IsTrip h TI (.ref i1) (.ref i2) (.ref i3) ∧ (∃ x y v, IsTrip h TO x y v) ∧ h.IsTupleIter i1 a i ∧ h.IsTupleIter i2 b i ∧ h.IsTupleIter i3 c i) where
  mem := by simp
  obj := fun i h st q hq => by
    obtain ⟨hz, hTI, ⟨x, y, v, hTO⟩, ⟨o1, e1, _, d1⟩, ⟨o2, e2, _, d2⟩, ⟨o3, e3, _, d3⟩⟩ := st
    have e' : q = z ∨ q = TI ∨ q = TO ∨ q = i1 ∨ q = i2 ∨ q = i3 := by simpa using hq
    rcases e' with r | r | r | r | r | r <;> rw [r]
    · exact ⟨_, hz, fun v q => nomatch q⟩
    · exact ⟨_, hTI, fun v q => nomatch q⟩
    · exact ⟨_, hTO, fun v q => nomatch q⟩
    · exact ⟨o1, e1, fun v q => by rw [d1] at q; cases q⟩
    · exact ⟨o2, e2, fun v q => by rw [d2] at q; cases q⟩
    · exact ⟨o3, e3, fun v q => by rw [d3] at q; cases q⟩
  keep := fun i h h' st k => by
    obtain ⟨hz, hTI, ⟨x, y, v, hTO⟩, h1, h2, h3⟩ := st
    exact ⟨k z (by simp) _ hz, k TI (by simp) _ hTI, ⟨x, y, v, k TO (by simp) _ hTO⟩, h1.at fun o q => k i1 (by simp) o q, h2.at fun o q => k i2 (by simp) o q, h3.at fun o q => k i3 (by simp) o q⟩
  item := by
    intro X hP hw hK hc i pins s σ H E I hf st hg
    subst hP hw hK
    obtain ⟨hz, hTI, ⟨x0, y0, v0, hTO⟩, h1, h2, h3⟩ := st
    obtain ⟨xs, ys, zs, x, y, v, hqx, hqy, hqv, hx, hy, hv⟩ := hg
    obtain ⟨its, rv, p, _⟩ := I.tuple hqx
    obtain ⟨its2, rv2, p2, _⟩ := I.tuple hqy
    obtain ⟨its3, rv3, p3, _⟩ := I.tuple hqv
    obtain ⟨u, hu, ru⟩ := rv.get hx
    obtain ⟨u2, hu2, ru2⟩ := rv2.get hy
    obtain ⟨u3, hu3, ru3⟩ := rv3.get hv
    have hzl : z < s.heap.objs.size := Heap.lt_size hz
    refine next3_item D hz hTI hTO h1 h2 h3 p p2 p3 (x := u) (y := u2) (v := u3) (by simpa using hu) (by simpa using hu2) (by simpa using hu3) fun h' z' TO' h1' h2' h3' hT hsz hk => ⟨_, rfl, wpAny_letOwnedTupleGo_zip (s := { s with heap := h' }) z' fun h'' z'' sb => ?_⟩
    have hT2 : h''.get? s.heap.objs.size = some { cls := .type "tuple", data := .seq #[u, u2, u3] } := (sb.2 _ (Nat.ne_of_gt hzl)).trans hT
    have new : ObjOk X.prog X.w (upd H s.heap.objs.size (.tup [x, y, v])) h'' s.heap.objs.size (.tup [x, y, v]) := ⟨by show 3 ≤ sizeLine; decide, [u, u2, u3], .cons ru (.cons ru2 (.cons ru3 .nil)), ⟨_, hT2, rfl, _, rfl⟩⟩
    have I1 : L2.Inv X pins σ (upd H s.heap.objs.size (.tup [x, y, v])) { s with heap := h'' } :=
      I.turnedNew (t' := s.toks) (ch := [z, TI, TO, i1, i2, i3]) (fun c o hb q => (sb.2 c (fun q' => hb (by simp [q']))).trans (hk c o (fun q' => hb (by simp [q'])) (fun q' => hb (by simp [q'])) (fun q' => hb (by simp [q'])) (fun q' => hb (by simp [q'])) (fun q' => hb (by simp [q'])) q)) hf (Nat.le_refl _) new
    refine ⟨.ref s.heap.objs.size, _, I1, rfl, ⟨_, x, y, v, rfl, I.hok.fresh (Nat.le_refl _), rfl, fun l hl => by rw [I.tuple_inj hl hqx]; exact hx, fun l hl => by rw [I.tuple_inj hl hqy]; exact hy, fun l hl => by rw [I.tuple_inj hl hqv]; exact hv⟩, ⟨z'', ?_, ⟨u, u2, u3, ?_⟩, ?_, ?_, ?_⟩, fun q hq => ?_⟩
    · exact (sb.2 _ D.TIz).trans (hk _ _ D.TIz D.TITO D.TIi1 D.TIi2 D.TIi3 hTI)
    · exact (sb.2 _ D.TOz).trans TO'
    · exact h1'.at fun o q => (sb.2 _ D.i1z).trans q
    · exact h2'.at fun o q => (sb.2 _ D.i2z).trans q
    · exact h3'.at fun o q => (sb.2 _ D.i3z).trans q
    · have hlt : q < s.heap.objs.size := by
        have e' : q = z ∨ q = TI ∨ q = TO ∨ q = i1 ∨ q = i2 ∨ q = i3 := by simpa using hq
        rcases e' with r | r | r | r | r | r <;> rw [r]
        · exact hzl
        · exact Heap.lt_size hTI
        · exact Heap.lt_size hTO
        · obtain ⟨_, e1, _⟩ := h1; exact Heap.lt_size e1
        · obtain ⟨_, e2, _⟩ := h2; exact Heap.lt_size e2
        · obtain ⟨_, e3, _⟩ := h3; exact Heap.lt_size e3
      rw [upd_ne (Nat.ne_of_lt hlt)]
      exact (hf q hq).1
  done := by
    intro X hP hw hK hc i pins s σ H E I hf st hg
    subst hP hw hK
    obtain ⟨hz, hTI, ⟨x0, y0, v0, hTO⟩, h1, h2, h3⟩ := st
    obtain ⟨xs, ys, zs, hqx, hqy, hqv, hend⟩ := hg
    obtain ⟨its, rv, p, _⟩ := I.tuple hqx
    obtain ⟨its2, rv2, p2, _⟩ := I.tuple hqy
    obtain ⟨its3, rv3, p3, _⟩ := I.tuple hqv
    have e1 := rv.length; have e2 := rv2.length; have e3 := rv3.length
    have he : its.toArray[i]? = none ∨ its2.toArray[i]? = none ∨ its3.toArray[i]? = none := by
      rcases hend with q | q | q
      · exact .inl (by simp; omega)
      · exact .inr (.inl (by simp; omega))
      · exact .inr (.inr (by simp; omega))
    exact next3_end (I.ok.hd hc) D hz hTI hTO h1 h2 h3 p p2 p3 he fun h' hk => ⟨rfl, I.turnedL (t' := s.toks) (ch := [z, TI, TO, i1, i2, i3]) (fun c o hb q => hk c o (fun q' => hb (by simp [q'])) (fun q' => hb (by simp [q'])) (fun q' => hb (by simp [q'])) (fun q' => hb (by simp [q'])) (fun q' => hb (by simp [q'])) q) hf⟩
  self := fun A i s Q E st h => wpAny_pyIter_zip st.1 h
def iZip3 (K : PySem.W.Frag) (ta : TA) : TI := fun σ H R => ta σ H fun vs H1 => ∃ a b c xs ys zs, vs = [.ref a, .ref b, .ref c] ∧ SqT K H1 a xs ∧ SqT K H1 b ys ∧ SqT K H1 c zs ∧ R (Itz3 K a b c) H1
theorem ap3_at (n a b c : Nat) (la : a < n) (lb : b < n) (lc : c < n) : Ap3 (n + 5) (n + 3) (n + 4) n (n + 1) (n + 2) a b c := by
  constructor <;> first | exact Nat.ne_of_lt (by omega) | exact Nat.ne_of_gt (by omega)
theorem r_zip3 {X : Cx} {K : PySem.W.Frag} {e e2 e3 : Expr} {ta : TA} {p pos tpos : Pos} {elts : List Expr} {kk : Nat} (hK : X.K = K) (hg : Gl X "zip") (hm : X.mg "zip" = none) (ha : PA X [e, e2, e3] ta)
    (hs : starEach [e, e2, e3] X.env = (false, eval e X.env) :: starEach [e2, e3] X.env := by rfl) (hpl : (backTo pos (starEach [e2, e3] X.env)).any (·.1) = false := by rfl) : PI X (.Tuple elts kk tpos) (.Call (.Name "zip" p) [e, e2, e3] [] pos) (iZip3 K ta) := by
  subst hK
  refine ⟨fun pins s σ H R I h => Call_ (ld_blt I hg hm PyProof.Rows.boot_zip (PyProof.Rows.callWith_type1 (thn (ha.run pos pins s σ H _ I h) fun us s1 zz => ?_) hs hpl))⟩
  obtain ⟨vs, H1, I1, r1, a, b, c, xs, ys, zs, ex, hqx, hqy, hqz, q⟩ := zz
  subst ex
  cases r1 with
  | cons r rr =>
    cases rr with
    | cons r' rr =>
      cases rr with
      | cons r'' rr =>
        cases rr; cases r; cases r'; cases r''
        obtain ⟨its, rv, p1, _⟩ := I1.tuple hqx
        obtain ⟨its2, rv2, p2, _⟩ := I1.tuple hqy
        obtain ⟨its3, rv3, p3, _⟩ := I1.tuple hqz
        have la : a < s1.heap.objs.size := by obtain ⟨o1, ho1, _⟩ := id p1; exact Heap.lt_size ho1
        have lb : b < s1.heap.objs.size := by obtain ⟨o1, ho1, _⟩ := id p2; exact Heap.lt_size ho1
        have lc : c < s1.heap.objs.size := by obtain ⟨o1, ho1, _⟩ := id p3; exact Heap.lt_size ho1
        refine zip_begins3 (begins_tuple a its.toArray) (begins_tuple b its2.toArray) (begins_tuple c its3.toArray) p1 p2 p3 fun h' hz hTI hTO h1 h2 h3 hsz hk => wpAny_pyIter_zip hz ?_
        have I2 : L2.Inv X pins σ H1 { s1 with heap := h' } := I1.kept (t' := s1.toks) hk
        have D : Ap3 (s1.heap.objs.size + 5) (s1.heap.objs.size + 3) (s1.heap.objs.size + 4) s1.heap.objs.size (s1.heap.objs.size + 1) (s1.heap.objs.size + 2) a b c := ap3_at _ _ _ _ la lb lc
        refine ⟨s1.heap.objs.size + 5, [s1.heap.objs.size + 5, s1.heap.objs.size + 3, s1.heap.objs.size + 4, s1.heap.objs.size, s1.heap.objs.size + 1, s1.heap.objs.size + 2], _, _, H1, rfl, I2, turn_zip3 D, ⟨hz, hTI, ⟨_, _, _, hTO⟩, ⟨_, h1, rfl, rfl⟩, ⟨_, h2, rfl, rfl⟩, ⟨_, h3, rfl, rfl⟩⟩, fun q hq => ?_, q⟩
        have hle : s1.heap.objs.size ≤ q := by
          simp only [List.mem_cons, List.not_mem_nil, or_false] at hq
          rcases hq with r | r | r | r | r | r <;> rw [r] <;> first | exact Nat.le_refl _ | exact Nat.le_add_right _ _
        exact I1.fpOk hle (I1.hok.fresh hle)
end FR
namespace FR
open PySem PySem.Spec PyProof.Rows L2
variable [TheW]
def zip3D (xs ys zs : List D) : List D := (xs.zip (ys.zip zs)).map fun p => D.tpk [p.1, p.2.1, p.2.2]
theorem itD_zip3 {K : PySem.W.Frag} {a b c : Addr} {xs ys zs : List D} : ItD K (Itz3 K a b c) (zip3D xs ys zs) [.tup xs, .tup ys, .tup zs] [.ref a, .ref b, .ref c] := ⟨by
  have hl : (zip3D xs ys zs).length = min xs.length (min ys.length zs.length) := by simp [zip3D]
  refine ⟨fun H => ∃ us vs ws, SqT K H a us ∧ us.length = xs.length ∧ SqT K H b vs ∧ vs.length = ys.length ∧ SqT K H c ws ∧ ws.length = zs.length, fun i H u H' => ∃ T x y v, u = .ref T ∧ H T = Option.none ∧ H' = upd H T (.tup [x, y, v]) ∧ (∀ xs, SqT K H a xs → xs[i]? = some x) ∧ (∀ ys, SqT K H b ys → ys[i]? = some y) ∧ ∀ zs, SqT K H c zs → zs[i]? = some v, ⟨?_, ?_, ?_⟩, ?_, ?_⟩
  · rintro i H hi ⟨us, vs, ws, h1, h2, h3, h4, h5, h6⟩
    exact ⟨us, vs, ws, us[i]'(by omega), vs[i]'(by omega), ws[i]'(by omega), h1, h3, h5, by simp [show i < us.length by omega], by simp [show i < vs.length by omega], by simp [show i < ws.length by omega]⟩
  · rintro H ⟨us, vs, ws, h1, h2, h3, h4, h5, h6⟩
    exact ⟨us, vs, ws, h1, h3, h5, by omega⟩
  · rintro i H x H' hi _ y
    exact y
  · intro H rl
    cases rl with
    | cons r rl =>
      cases rl with
      | cons r2 rl =>
        cases rl with
        | cons r3 _ =>
          cases r with
          | tup a1 a2 =>
            cases r2 with
            | tup b1 b2 =>
              cases r3 with
              | tup c1 c2 => exact ⟨_, _, _, a1.sq, a2.len, b1.sq, b2.len, c1.sq, c2.len⟩
  · rintro i H u H' hi rl ⟨T, x, y, v, rfl, hT, rfl, y1, y2, y3⟩
    have hx : i < xs.length := by omega
    have hy : i < ys.length := by omega
    have hz : i < zs.length := by omega
    refine ⟨.tpk [xs[i], ys[i], zs[i]], ?_, same_new hT, fun M hM rl2 => ?_⟩
    · unfold zip3D
      rw [List.getElem?_map, List.getElem?_eq_getElem (by simp; omega), List.getElem_zip, List.getElem_zip]
      rfl
    cases rl2 with
    | cons r rl =>
      cases rl with
      | cons r2 rl =>
        cases rl with
        | cons r3 _ =>
          cases r with
          | tup a1 a2 =>
            cases r2 with
            | tup b1 b2 =>
              cases r3 with
              | tup c1 c2 =>
                obtain ⟨u1, e1, f1⟩ := a2.get (i := i) (x := xs[i]) (by simp [hx])
                obtain ⟨u2, e2, f2⟩ := b2.get (i := i) (x := ys[i]) (by simp [hy])
                obtain ⟨u3, e3, f3⟩ := c2.get (i := i) (x := zs[i]) (by simp [hz])
                have g1 := y1 _ (same_sqT (era_sub _ _) a1)
                have g2 := y2 _ (same_sqT (era_sub _ _) b1)
                have g3 := y3 _ (same_sqT (era_sub _ _) c1)
                rw [e1] at g1; rw [e2] at g2; rw [e3] at g3
                cases g1; cases g2; cases g3
                have nT : T ∉ M := fun z => hM T z hT
                have em := era_mono M (same_new (o := .tup [x, y, v]) hT)
                exact .tpk (.inl (era_of upd_same nT)) (.cons (f1.mono em) (.cons (f2.mono em) (.cons (f3.mono em) .nil)))⟩
theorem wi_zip3 {W : Wo} {n : Nat} {env : List E} {ta : TA} {Φ : List D → Nat → Prop} (q : WpA W ta n env fun ds n1 => ∃ xs ys zs, ds = [.tup xs, .tup ys, .tup zs] ∧ Φ (zip3D xs ys zs) n1) : WpI W (iZip3 W.K ta) n env Φ := fun σ stk vs H R w k =>
  q σ stk vs H _ w fun us ds n1 H1 q1 l w1 => by
    obtain ⟨xs, ys, zs, rfl, q1⟩ := q1
    have t := w1.sees l
    cases t with
    | cons r rl =>
      cases rl with
      | cons r2 rl =>
        cases rl with
        | cons r3 rl =>
          cases rl
          cases r with
          | @tup a us1 _ a1 a2 =>
            cases r2 with
            | @tup b us2 _ b1 b2 =>
              cases r3 with
              | @tup c us3 _ c1 c2 => exact ⟨a, b, c, us1, us2, us3, rfl, a1.sq, b1.sq, c1.sq, k _ (zip3D xs ys zs) n1 H1 [.tup xs, .tup ys, .tup zs] [.ref a, .ref b, .ref c] q1 rfl w1 itD_zip3.up⟩
def jZip3 (a : Exs) : Itx := ⟨fun K => iZip3 K (a.ta K), fun env => (a.ev env).bind fun ds => match ds with
    | [.tup xs, .tup ys, .tup zs] => some (zip3D xs ys zs)
    | _ => none, a.nd, fun {W n env ds Φ} k h q => by
  obtain ⟨ds, h1, h⟩ := bind_inv h
  split at h
  · cases h; exact wi_zip3 (a.ok k h1 ⟨_, _, _, rfl, q⟩)
  · cases h⟩
theorem te_jZip3 (a : Exs) (K : PySem.W.Frag) : (jZip3 a).ti K = iZip3 K (a.ta K) := rfl
end FR
namespace FR
open PySem PySem.Spec PyProof.Rows L2
variable [TheW]
/-- xs, y = [], e -/
def sParL (i j : Nat) (e : Ex) : Stx := ⟨fun K => tPar i j (tCons (tLst tNil) (tCons (e.te K) tNil)), fun env => when (!Nat.beq i j && freeAt (unown env i) i) ((e.ev (unown env i)).bind fun y => some (.nx (((unown env i).set j (.d y)).set i (.own (.lst []))))), e.nd, fun {W n env fl O} k h q => by
  obtain ⟨h1, h⟩ := when_inv h
  obtain ⟨y, h2, h⟩ := bind_inv h
  cases h
  rw [Bool.and_eq_true] at h1
  have hij : i ≠ j := by
    intro z
    have := h1.1
    rw [z, Nat.beq_refl] at this
    cases this
  obtain ⟨f1, f2⟩ := freeAt_inv h1.2
  refine ws_unown (i := i) ?_
  intro σ stk vs H De w f
  refine ⟨Nat.zero_le _, fun p hp => ?_⟩
  refine e.ok (Φ := fun d m => d = y ∧ m = n) k h2 ⟨rfl, rfl⟩ σ _ _ _ _ (w.newOwn hp) fun v d n' H' hd w' => ?_
  obtain ⟨rfl, rfl⟩ := hd
  refine ⟨_, _, rfl, ?_⟩
  refine f.nx _ _ _ _ q ?_
  have w2 := (w'.set j).ownSet (xs := .lst []) i (by rw [List.length_set]; exact f1) (fun zs => by rw [List.getElem?_set_ne (Ne.symm hij)]; exact f2 zs)
  have ec : ((σ : List (Option V)).set i (some (V.ref p))).set j (some v) = ((σ : List (Option V)).set j (some v)).set i (some (V.ref p)) := List.set_comm _ _ hij
  show Wd W n' _ (((σ : List (Option V)).set i (some (V.ref p))).set j (some v)) stk vs H'
  rw [ec]
  exact w2⟩
theorem te_sParL (i j : Nat) (e : Ex) (K : PySem.W.Frag) : (sParL i j e).ts K = tPar i j (tCons (tLst tNil) (tCons (e.te K) tNil)) := rfl
theorem ws_par3 {W : Wo} {n i j l : Nat} {env : List E} {O : Out} {ta : TA} (q : WpA W ta n env fun ds n' => ∃ a b c, ds = [a, b, c] ∧ O.nx (((env.set i (.d a)).set j (.d b)).set l (.d c)) n') : WpS W (tPar3 i j l ta) n env O := fun σ stk vs H De w f =>
  q σ stk vs H _ w fun us ds n' H' q' le w' => by
    obtain ⟨a, b, c, rfl, q'⟩ := q'
    match us, le with
    | [u, u', u''], _ =>
      have w2 : Wd W n' env σ (.d a :: .d b :: .d c :: stk) (some u :: some u' :: some u'' :: vs) H' := w'
      exact ⟨u, u', u'', rfl, f.nx _ _ _ n' q' (((w2.set i).set j).set l)⟩
def sPar3 (i j l : Nat) (a : Exs) : Stx := ⟨fun K => tPar3 i j l (a.ta K), fun env => (a.ev env).bind fun ds => match ds with
    | [x, y, z] => some (.nx (((env.set i (.d x)).set j (.d y)).set l (.d z)))
    | _ => none, a.nd, fun {W n env fl O} k h q => by
  obtain ⟨ds, h1, h⟩ := bind_inv h
  split at h
  · cases h; exact ws_par3 (a.ok k h1 ⟨_, _, _, rfl, q⟩)
  · cases h⟩
theorem te_sPar3 (i j l : Nat) (a : Exs) (K : PySem.W.Frag) : (sPar3 i j l a).ts K = tPar3 i j l (a.ta K) := rfl
end FR
namespace FR
open PySem PySem.Spec PyProof.Rows L2
variable [TheW]

/-! ## readings that draw: bundled with what is to be shown of them -/
structure QE where
  te : PySem.W.Frag → TE
  wp : Nat → List E → (D → Nat → Prop) → Prop
  nd : PySem.W.Frag → Prop
  ok : ∀ {W : Wo} {n : Nat} {env : List E} {Φ : D → Nat → Prop}, nd W.K → wp n env Φ → Wp W (te W.K) n env Φ
structure QA where
  ta : PySem.W.Frag → TA
  wp : Nat → List E → (List D → Nat → Prop) → Prop
  nd : PySem.W.Frag → Prop
  ok : ∀ {W : Wo} {n : Nat} {env : List E} {Φ : List D → Nat → Prop}, nd W.K → wp n env Φ → WpA W (ta W.K) n env Φ
structure QT where
  tt : PySem.W.Frag → TT
  wp : Nat → List E → (Bool → Nat → Prop) → Prop
  nd : PySem.W.Frag → Prop
  ok : ∀ {W : Wo} {n : Nat} {env : List E} {Φ : Bool → Nat → Prop}, nd W.K → wp n env Φ → WpT W (tt W.K) n env Φ
structure QI where
  ti : PySem.W.Frag → TI
  wp : Nat → List E → (List D → Nat → Prop) → Prop
  nd : PySem.W.Frag → Prop
  ok : ∀ {W : Wo} {n : Nat} {env : List E} {Φ : List D → Nat → Prop}, nd W.K → wp n env Φ → WpI W (ti W.K) n env Φ
structure QF where
  te : PySem.W.Frag → TE
  wp : Nat → List E → (D → Nat → Prop) → Prop
  nd : PySem.W.Frag → Prop
  ok : ∀ {W : Wo} {n : Nat} {env : List E} {Φ : D → Nat → Prop}, nd W.K → wp n env Φ → WpF W (te W.K) n env Φ
structure QS where
  ts : PySem.W.Frag → TS
  wp : Nat → List E → Out → Prop
  nd : PySem.W.Frag → Prop
  ok : ∀ {W : Wo} {n : Nat} {env : List E} {O : Out}, nd W.K → wp n env O → WpS W (ts W.K) n env O
structure QP where
  to : PySem.W.Frag → TO
  wp : Nat → List E → (Option Int → Nat → Prop) → Prop
  nd : PySem.W.Frag → Prop
  ok : ∀ {W : Wo} {n : Nat} {env : List E} {Φ : Option Int → Nat → Prop}, nd W.K → wp n env Φ → WpO W (to W.K) n env Φ

/-! ### pure ones -/
def qE (e : Ex) : QE := ⟨e.te, fun n env Φ => ∃ d, e.ev env = some d ∧ Φ d n, e.nd, fun k h => by obtain ⟨d, h1, h2⟩ := h; exact e.ok k h1 h2⟩
def qA (e : Exs) : QA := ⟨e.ta, fun n env Φ => ∃ d, e.ev env = some d ∧ Φ d n, e.nd, fun k h => by obtain ⟨d, h1, h2⟩ := h; exact e.ok k h1 h2⟩
def qT (e : Ts) : QT := ⟨e.tt, fun n env Φ => ∃ d, e.ev env = some d ∧ Φ d n, e.nd, fun k h => by obtain ⟨d, h1, h2⟩ := h; exact e.ok k h1 h2⟩
def qI (e : Itx) : QI := ⟨e.ti, fun n env Φ => ∃ d, e.ev env = some d ∧ Φ d n, e.nd, fun k h => by obtain ⟨d, h1, h2⟩ := h; exact e.ok k h1 h2⟩
def qF (e : Fx) : QF := ⟨e.te, fun n env Φ => ∃ d, e.ev env = some d ∧ Φ d n, e.nd, fun k h => by obtain ⟨d, h1, h2⟩ := h; exact e.ok k h1 h2⟩
def qP (e : Po) : QP := ⟨e.to, fun n env Φ => ∃ d, e.ev env = some d ∧ Φ d n, e.nd, fun k h => by obtain ⟨d, h1, h2⟩ := h; exact e.ok k h1 h2⟩
def qS (e : Stx) : QS := ⟨e.ts, fun n env O => ∃ fl, e.ev env = some fl ∧ O.at n fl, e.nd, fun k h => by obtain ⟨d, h1, h2⟩ := h; exact e.ok k h1 h2⟩

/-! ### expressions -/
def qCons (a : QE) (b : QA) : QA := ⟨fun K => tCons (a.te K) (b.ta K), fun n env Φ => a.wp n env fun x n1 => b.wp n1 env fun xs n2 => Φ (x :: xs) n2, two a.nd b.nd, fun {W n env Φ} k h =>
  wpA_cons ((a.ok k.1 h).mono fun x n1 h1 => b.ok k.2 h1)⟩
def qTup (a : QA) : QE := ⟨fun K => tTupP (a.ta K), fun n env Φ => a.wp n env fun xs n1 => szOk xs.length = true ∧ Φ (.tup xs) n1, a.nd, fun {W n env Φ} k h σ stk vs H Q w kk =>
  wp_tup (Φ := Φ) (fun σ stk vs H Q w kk => a.ok k h σ stk vs H Q w fun us ds n' H' q => kk us ds n' H' ⟨szOk_le q.1, q.2⟩) σ stk vs H Q w kk⟩
def qLst (a : QA) : QE := ⟨fun K => tLst (a.ta K), fun n env Φ => a.wp n env fun xs n1 => szOk xs.length = true ∧ Φ (.lst xs) n1, a.nd, fun {W n env Φ} k h σ stk vs H Q w kk =>
  wp_lst (Φ := Φ) (fun σ stk vs H Q w kk => a.ok k h σ stk vs H Q w fun us ds n' H' q => kk us ds n' H' ⟨szOk_le q.1, q.2⟩) σ stk vs H Q w kk⟩
def qOp2 (s : Sem2) (a b : QE) : QE := ⟨fun K => tOp (s.r K) (a.te K) (b.te K), fun n env Φ => a.wp n env fun x n1 => b.wp n1 env fun y n2 => ∃ d, s.f x y = some d ∧ Φ d n2, two a.nd b.nd, fun {W n env Φ} k h =>
  wp_op ((a.ok k.1 h).mono fun x n1 h1 => (b.ok k.2 h1).mono fun y n2 h2 => by obtain ⟨d, h3, h4⟩ := h2; exact s.ok h3 h4)⟩
def qUn (s : Sem1) (a : QE) : QE := ⟨fun K => tUn (s.r K) (a.te K), fun n env Φ => a.wp n env fun x n1 => ∃ d, s.f x = some d ∧ Φ d n1, a.nd, fun {W n env Φ} k h =>
  wp_un ((a.ok k h).mono fun x n1 h1 => by obtain ⟨d, h3, h4⟩ := h1; exact s.ok h3 h4)⟩
theorem WpA.mono {W : Wo} {n : Nat} {env : List E} {ta : TA} {Φ Ψ : List D → Nat → Prop} (h : WpA W ta n env Φ) (f : ∀ d n, Φ d n → Ψ d n) : WpA W ta n env Ψ := fun σ stk vs H Q w q => h σ stk vs H Q w fun us ds n' H' p => q us ds n' H' (f _ _ p)
theorem WpT.mono {W : Wo} {n : Nat} {env : List E} {ta : TT} {Φ Ψ : Bool → Nat → Prop} (h : WpT W ta n env Φ) (f : ∀ d n, Φ d n → Ψ d n) : WpT W ta n env Ψ := fun σ stk vs H Q w q => h σ stk vs H Q w fun us n' H' p => q us n' H' (f _ _ p)
theorem WpI.mono {W : Wo} {n : Nat} {env : List E} {ta : TI} {Φ Ψ : List D → Nat → Prop} (h : WpI W ta n env Φ) (f : ∀ d n, Φ d n → Ψ d n) : WpI W ta n env Ψ := fun σ stk vs H Q w q => h σ stk vs H Q w fun J ds n' H' s2 v2 p => q J ds n' H' s2 v2 (f _ _ p)
theorem WpO.mono {W : Wo} {n : Nat} {env : List E} {ta : TO} {Φ Ψ : Option Int → Nat → Prop} (h : WpO W ta n env Φ) (f : ∀ d n, Φ d n → Ψ d n) : WpO W ta n env Ψ := fun σ stk vs H Q w q => h σ stk vs H Q w fun us n' H' p => q us n' H' (f _ _ p)
def qFn (s : SemN) (a : QA) : QE := ⟨fun K => tCB (s.r K) (a.ta K), fun n env Φ => a.wp n env fun xs n1 => ∃ d, s.f xs = some d ∧ Φ d n1, a.nd, fun {W n env Φ} k h =>
  wp_cb2 ((a.ok k h).mono fun x n1 h1 => by obtain ⟨d, h3, h4⟩ := h1; exact s.ok h3 h4)⟩
def qCall (f : List D → Option D) (a : QA) : QE := ⟨fun K => tCall (spD K (CF f)) [] E0 (a.ta K), fun n env Φ => a.wp n env fun xs n1 => ∃ d, f xs = some d ∧ Φ d n1, a.nd, fun {W n env Φ} k h =>
  wp_call ((a.ok k h).mono fun x n1 h1 => h1)⟩
/-- a def that draws: its pot is the name at i -/
def qDraw (C : List D → Nat → (D → Nat → Prop) → Prop) (i : Nat) (a : QA) : QE := ⟨fun K => tCall (spP K C) [] E0 (tCons (tVar i) (a.ta K)), fun n env Φ => env[i]? = some .pot ∧ a.wp n env fun xs n1 => C xs n1 Φ, a.nd, fun {W n env Φ} k h =>
  wp_callP h.1 (a.ok k h.2)⟩
def qB (a : QE) : QT := ⟨fun K => tB (a.te K), fun n env Φ => a.wp n env fun x n1 => ∃ b, blOf x = some b ∧ Φ b n1, a.nd, fun {W n env Φ} k h =>
  wpT_B ((a.ok k h).mono fun x n1 h1 => by obtain ⟨b, h2, h3⟩ := h1; exact ⟨b, blOf_inv h2, h3⟩)⟩
def qTest (a : QE) : QT := ⟨fun K => tTest (a.te K), fun n env Φ => a.wp n env fun x n1 => ∃ b, blOf x = some b ∧ Φ b n1, a.nd, fun {W n env Φ} k h =>
  wpT_test ((a.ok k h).mono fun x n1 h1 => by obtain ⟨b, h2, h3⟩ := h1; exact ⟨b, blOf_inv h2, h3⟩)⟩
def qNotT (a : QT) : QT := ⟨fun K => tNot (a.tt K), fun n env Φ => a.wp n env fun b n1 => Φ (!b) n1, a.nd, fun {W n env Φ} k h => wpT_not (a.ok k h)⟩
def qAndT (a b : QT) : QT := ⟨fun K => tAnd (a.tt K) (b.tt K), fun n env Φ => a.wp n env fun c n1 => match c with
    | true => b.wp n1 env Φ
    | false => Φ false n1, two a.nd b.nd, fun {W n env Φ} k h => wpT_and ((a.ok k.1 h).mono fun c n1 h1 => by
  cases c with
  | true => exact b.ok k.2 h1
  | false => exact h1)⟩
def qOrT (a b : QT) : QT := ⟨fun K => tOr (a.tt K) (b.tt K), fun n env Φ => a.wp n env fun c n1 => match c with
    | true => Φ true n1
    | false => b.wp n1 env Φ, two a.nd b.nd, fun {W n env Φ} k h => wpT_or ((a.ok k.1 h).mono fun c n1 h1 => by
  cases c with
  | true => exact h1
  | false => exact b.ok k.2 h1)⟩
def qAnd (a b : QE) : QE := ⟨fun K => tAndV (a.te K) (b.te K), fun n env Φ => a.wp n env fun x n1 => ∃ c, blOf x = some c ∧ match c with
    | true => b.wp n1 env Φ
    | false => Φ (.bl false) n1, two a.nd b.nd, fun {W n env Φ} k h => wp_andV ((a.ok k.1 h).mono fun x n1 h1 => by
  obtain ⟨c, h2, h1⟩ := h1
  refine ⟨c, blOf_inv h2, ?_⟩
  cases c with
  | true => exact b.ok k.2 h1
  | false => exact h1)⟩
def qOr (a b : QE) : QE := ⟨fun K => tOrV (a.te K) (b.te K), fun n env Φ => a.wp n env fun x n1 => ∃ c, blOf x = some c ∧ match c with
    | true => Φ (.bl true) n1
    | false => b.wp n1 env Φ, two a.nd b.nd, fun {W n env Φ} k h => wp_orV ((a.ok k.1 h).mono fun x n1 h1 => by
  obtain ⟨c, h2, h1⟩ := h1
  refine ⟨c, blOf_inv h2, ?_⟩
  cases c with
  | true => exact h1
  | false => exact b.ok k.2 h1)⟩
def qNot (a : QE) : QE := ⟨fun K => tNotV (a.te K), fun n env Φ => a.wp n env fun x n1 => ∃ c, blOf x = some c ∧ Φ (.bl (!c)) n1, a.nd, fun {W n env Φ} k h => wp_notV ((a.ok k h).mono fun x n1 h1 => by
  obtain ⟨c, h2, h1⟩ := h1
  exact ⟨c, blOf_inv h2, h1⟩)⟩
def qIf (t : QT) (a b : QE) : QE := ⟨fun K => tIf (t.tt K) (a.te K) (b.te K), fun n env Φ => t.wp n env fun c n1 => match c with
    | true => a.wp n1 env Φ
    | false => b.wp n1 env Φ, two t.nd (two a.nd b.nd), fun {W n env Φ} k h => wp_if ((t.ok k.1 h).mono fun c n1 h1 => by
  cases c with
  | true => exact a.ok k.2.1 h1
  | false => exact b.ok k.2.2 h1)⟩
def qChain (s s' : Sem2) (a b c : QE) : QE := ⟨fun K => tChain (s.r K) (s'.r K) (a.te K) (b.te K) (c.te K), fun n env Φ => a.wp n env fun x n1 => b.wp n1 env fun y n2 => ∃ z, s.f x y = some z ∧ ∃ t, blOf z = some t ∧ match t with
    | true => c.wp n2 env fun e n3 => ∃ d, s'.f y e = some d ∧ Φ d n3
    | false => Φ (.bl false) n2, two a.nd (two b.nd c.nd), fun {W n env Φ} k h => wp_chain ((a.ok k.1 h).mono fun x n1 h1 => (b.ok k.2.1 h1).mono fun y n2 h2 => by
  obtain ⟨z, h3, t, h4, h5⟩ := h2
  have e4 := blOf_inv h4
  subst e4
  refine s.ok h3 ⟨t, rfl, ?_⟩
  cases t with
  | true => exact (c.ok k.2.2 h5).mono fun e n3 h6 => by obtain ⟨d, h7, h8⟩ := h6; exact s'.ok h7 h8
  | false => exact h5)⟩
def qPart (a : QE) : QP := ⟨fun K => tPart (a.te K), fun n env Φ => a.wp n env fun x n1 => ∃ i, inOf x = some i ∧ Φ (some i) n1, a.nd, fun {W n env Φ} k h => wpO_some ((a.ok k h).mono fun x n1 h1 => by
  obtain ⟨c, h2, h1⟩ := h1
  exact ⟨c, inOf_inv h2, h1⟩)⟩
/-- a sequence that draws, walked -/
def qSeqI (e : QE) : QI := ⟨fun K => iSeq K (e.te K), fun n env Φ => e.wp n env fun x n1 => ∃ ds, itemsOf x = some ds ∧ Φ ds n1, e.nd, fun {W n env Φ} k h => wi_seq ((e.ok k h).mono fun x n1 h1 => h1)⟩

def qRange1 (a : QA) : QI := ⟨fun K => iRng1 (a.ta K), fun n env Φ => a.wp n env fun ds n1 => ∃ j : Int, ds = [.int j] ∧ sm62 j = true ∧ Φ (rangeD 0 j.toNat) n1, a.nd, fun {W n env Φ} k h => wi_range ((a.ok k h).mono fun ds n1 h1 => by
  obtain ⟨j, h2, h3, h4⟩ := h1
  exact ⟨j, h2, (sm62_inv h3).1, (sm62_inv h3).2, h4⟩)⟩
def qRange2 (a : QA) : QI := ⟨fun K => iRng2 (a.ta K), fun n env Φ => a.wp n env fun ds n1 => ∃ i j : Int, ds = [.int i, .int j] ∧ sm62 i = true ∧ sm62 j = true ∧ Φ (rangeD i (j - i).toNat) n1, a.nd, fun {W n env Φ} k h => wi_range2 ((a.ok k h).mono fun ds n1 h1 => by
  obtain ⟨i, j, h2, h3, h5, h4⟩ := h1
  exact ⟨i, j, h2, ⟨(sm62_inv h3).1, (sm62_inv h3).2, (sm62_inv h5).1, (sm62_inv h5).2⟩, h4⟩)⟩
/-! ### comprehensions -/
def goLcQ (g : Tgx) (t : QT) (e : QE) (env : List E) : List D → List D → Nat → (List D → Nat → Prop) → Prop
  | [], acc, m, k => k acc m
  | d :: ds, acc, m, k => ∃ env2, g.ev d env = some env2 ∧ t.wp m env2 fun b m1 => match b with
    | true => e.wp m1 env2 fun y m2 => goLcQ g t e env ds (acc ++ [y]) m2 k
    | false => goLcQ g t e env ds acc m1 k
theorem drop_atQ {ds : List D} {i : Nat} {d : D} (hd : ds[i]? = some d) : ds.drop i = d :: ds.drop (i + 1) := by
  have hlt := (List.getElem?_eq_some_iff.mp hd).1
  rw [List.drop_eq_getElem_cons hlt]
  congr 1
  exact (List.getElem?_eq_some_iff.mp hd).2
def qLc (it : QI) (g : Tgx) (t : QT) (e : QE) (sl : List Nat) (hL : (g.L.all fun i => sl.elem i) = true) : QE := ⟨fun K => tLc (it.ti K) (g.tg K) (t.tt K) (e.te K) sl,
  fun n env Φ => it.wp n env fun ds n1 => szOk ds.length = true ∧ goLcQ g t e (wipeE (env.map hideE) sl) ds [] n1 fun ys m => Φ (.lst ys) m, two it.nd (two t.nd e.nd), fun {W n env Φ} k h => by
  have hL' : ∀ i ∈ g.L, i ∈ sl := fun i hi => by
    have := List.all_eq_true.mp hL i hi
    simpa using this
  refine wp_lc (L := g.L) hL' ((it.ok k.1 h).mono fun ds n1 h1 => ⟨fun i acc m => goLcQ g t e (wipeE (env.map hideE) sl) (ds.drop i) acc m fun ys m => Φ (.lst ys) m, h1.2, szOk_le h1.1, ?_, ?_⟩)
  · rintro i d acc m hd hr
    rw [drop_atQ hd] at hr
    obtain ⟨env2, h4, hr⟩ := hr
    refine g.ok h4 ((t.ok k.2.1 hr).mono fun b m1 h5 => ?_)
    cases b with
    | true => exact e.ok k.2.2 h5
    | false => exact h5
  · rintro acc m hr _
    rw [List.drop_length] at hr
    exact hr⟩
def qfLc (it : QI) (g : Tgx) (t : QT) (e : QE) (sl : List Nat) (hL : (g.L.all fun i => sl.elem i) = true) : QF := ⟨fun K => tLc (it.ti K) (g.tg K) (t.tt K) (e.te K) sl,
  fun n env Φ => it.wp n env fun ds n1 => szOk ds.length = true ∧ goLcQ g t e (wipeE (env.map hideE) sl) ds [] n1 fun ys m => Φ (.lst ys) m, two it.nd (two t.nd e.nd), fun {W n env Φ} k h => by
  have hL' : ∀ i ∈ g.L, i ∈ sl := fun i hi => by
    have := List.all_eq_true.mp hL i hi
    simpa using this
  refine wf_lc (L := g.L) hL' ((it.ok k.1 h).mono fun ds n1 h1 => ⟨fun i acc m => goLcQ g t e (wipeE (env.map hideE) sl) (ds.drop i) acc m fun ys m => Φ (.lst ys) m, h1.2, szOk_le h1.1, ?_, ?_⟩)
  · rintro i d acc m hd hr
    rw [drop_atQ hd] at hr
    obtain ⟨env2, h4, hr⟩ := hr
    refine g.ok h4 ((t.ok k.2.1 hr).mono fun b m1 h5 => ?_)
    cases b with
    | true => exact e.ok k.2.2 h5
    | false => exact h5
  · rintro acc m hr _
    rw [List.drop_length] at hr
    exact hr⟩

/-! ### statements -/
def qSeq (a b : QS) : QS := ⟨fun K => tSeq (a.ts K) (b.ts K), fun n env O => a.wp n env { O with nx := fun env' n' => b.wp n' env' O }, two a.nd b.nd, fun {W n env O} k h =>
  ws_seq ((a.ok k.1 h).mono (fun e n q => b.ok k.2 q) (fun _ _ q => q) (fun _ _ q => q) fun _ _ q => q)⟩
def qDrop (e : QE) : QS := ⟨fun K => tDrop (e.te K), fun n env O => e.wp n env fun _ n' => O.nx env n', e.nd, fun {W n env O} k h => ws_drop (e.ok k h)⟩
def qRet (e : QE) : QS := ⟨fun K => tRet (e.te K), fun n env O => e.wp n env O.rt, e.nd, fun {W n env O} k h => ws_ret (e.ok k h)⟩
def qIfS (t : QT) (a b : QS) : QS := ⟨fun K => tIfS (t.tt K) (a.ts K) (b.ts K), fun n env O => t.wp n env fun c n1 => match c with
    | true => a.wp n1 env O
    | false => b.wp n1 env O, two t.nd (two a.nd b.nd), fun {W n env O} k h => ws_if ((t.ok k.1 h).mono fun c n1 h1 => by
  cases c with
  | true => exact a.ok k.2.1 h1
  | false => exact b.ok k.2.2 h1)⟩
def qAsg (e : QE) (g : Tgx) : QS := ⟨fun K => tAsg (e.te K) (g.tg K), fun n env O => e.wp n env fun d n1 => ∃ env', g.ev d env = some env' ∧ O.nx env' n1, e.nd, fun {W n env O} k h =>
  ws_asg (L := g.L) ((e.ok k h).mono fun d n1 h1 => by obtain ⟨env', h2, h3⟩ := h1; exact g.ok h2 h3)⟩
def goForQ (g : Tgx) (b : QS) : List D → Nat → List E → Out → Prop
  | [], n, env, O => O.nx env n
  | d :: ds, n, env, O => ∃ env2, g.ev d env = some env2 ∧ b.wp n env2 { nx := fun e m => goForQ g b ds m e O, ct := fun e m => goForQ g b ds m e O, bk := O.nx, rt := O.rt }
def qFor (it : QI) (g : Tgx) (b : QS) : QS := ⟨fun K => tFor (it.ti K) (g.tg K) (b.ts K), fun n env O => it.wp n env fun ds n1 => goForQ g b ds n1 env O, two it.nd b.nd, fun {W n env O} k h => by
  refine ws_for (L := g.L) ((it.ok k.1 h).mono fun ds n1 h1 => ⟨fun i env' m => goForQ g b (ds.drop i) m env' O, h1, ?_, ?_⟩)
  · rintro i d env' m hd hr
    rw [drop_atQ hd] at hr
    obtain ⟨env2, h4, hr⟩ := hr
    exact g.ok h4 (b.ok k.2 hr)
  · rintro env' m hr
    rw [List.drop_length] at hr
    exact hr⟩
def goWhileQ (t : QT) (b : QS) : Nat → Nat → List E → Out → Prop
  | 0, _, _, _ => False
  | f + 1, n, env, O => t.wp n env fun c n1 => match c with
    | false => O.nx env n1
    | true => b.wp n1 env { nx := fun e m => goWhileQ t b f m e O, ct := fun e m => goWhileQ t b f m e O, bk := O.nx, rt := O.rt }
def qWhile (fuel : List E → Nat) (t : QT) (b : QS) : QS := ⟨fun K => tWhile (t.tt K) (b.ts K), fun n env O => goWhileQ t b (fuel env) n env O, two t.nd b.nd, fun {W n env O} k h => by
  refine ws_while (fun m env' n' => goWhileQ t b m n' env' O) ⟨_, h⟩ ?_
  rintro m env' n' hr
  cases m with
  | zero => exact hr.elim
  | succ m =>
    refine (t.ok k.1 hr).mono fun c n1 h1 => ?_
    cases c with
    | false => exact h1
    | true => exact (b.ok k.2 h1).mono (fun e m' q => ⟨m, Nat.lt_succ_self _, q⟩) (fun _ _ q => q) (fun _ _ q => q) fun e m' q => ⟨m, Nat.lt_succ_self _, q⟩⟩
def qFz (is : List Nat) (s : QS) : QS := ⟨fun K => s.ts K, fun n env O => s.wp n (fzAt env is) O, s.nd, fun k h => ws_fz (s.ok k h)⟩
def qSetF (i : Nat) (e : QF) : QS := ⟨fun K => tAsg (e.te K) (gName i), fun n env O => freeAt (unown env i) i = true ∧ e.wp n (unown env i) fun d n1 => O.nx ((unown env i).set i (.own d)) n1, e.nd, fun {W n env O} k h =>
  ws_unown (ws_setF (freeAt_inv h.1).1 (freeAt_inv h.1).2 (e.ok k h.2))⟩
def qAppend (i : Nat) (e : QE) : QS := ⟨fun K => tDrop (tBM K "list" rAppend (tVar i) (tCons (e.te K) tNil)), fun n env O => ∃ xs, ownAt env[i]? = some (.lst xs) ∧ e.wp n env fun y n1 => Nat.blt xs.length 16777216 = true ∧ O.nx (env.set i (.own (.lst (xs ++ [y])))) n1, e.nd, fun {W n env O} k h => by
  obtain ⟨xs, h1, h2⟩ := h
  exact ws_append (ownAt_inv h1) ((e.ok k h2).mono fun y n1 h3 => ⟨by rw [sizeLine_eq]; exact Nat.le_of_ble_eq_true h3.1, h3.2⟩)⟩
def qExtend (i : Nat) (e : QE) : QS := ⟨fun K => tDrop (tBM K "list" rExtend (tVar i) (tCons (e.te K) tNil)), fun n env O => ∃ xs, ownAt env[i]? = some (.lst xs) ∧ e.wp n env fun y n1 => ∃ ys, lstOf y = some ys ∧ szOk (xs.length + ys.length) = true ∧ O.nx (env.set i (.own (.lst (xs ++ ys)))) n1, e.nd, fun {W n env O} k h => by
  obtain ⟨xs, h1, h2⟩ := h
  refine ws_extend (ownAt_inv h1) ((e.ok k h2).mono fun y n1 h3 => ?_)
  obtain ⟨ys, h4, h5, h6⟩ := h3
  exact ⟨ys, lstOf_inv h4, szOk_le h5, h6⟩⟩
def qPar (i j : Nat) (a : QA) : QS := ⟨fun K => tPar i j (a.ta K), fun n env O => a.wp n env fun ds n1 => ∃ x y, ds = [x, y] ∧ O.nx ((env.set i (.d x)).set j (.d y)) n1, a.nd, fun {W n env O} k h => ws_par (a.ok k h)⟩

/-! ## a def that draws by its evaluator -/
def fnQ (N : List Str) (np : Nat) (body : QS) : List D → Nat → (D → Nat → Prop) → Prop := fun ds n Φ => Nat.beq (ds.length + 1) np = true ∧ body.wp n (envP N ds) { nx := fun _ n => Φ .non n, rt := Φ }
section
variable {P : Program} {w : World} {K : PySem.W.Frag} {mg : Str → Option Value} {base : Heap} {k : Nat} {x : Str} {st : Stmt} {ps N : List Str}
theorem has_Q {r : TS} (Dd : DefIn K mg x st ps) (S : FnScope N ps (defScope st)) (np : Nat) (hnp : ps.length = np) (body : QS) (hn : body.nd K)
    (hb : ∀ (f : Addr) (cdv : Value) (B : Around) (out : List Env) (t : Shared) (H : Hp) (E : XK), B.guards = some [] → Room k (B.deeper (envOfC x (defScope st) t.heap.objs.size f cdv)) →
      PSs (cxOf CX0 P w K mg base N x (defScope st) f cdv B out t H E).nox (defBody st) r) (e : r = body.ts K) :
    Has P w K mg base (k + 1) x ps (spP K (fnQ N np body)) := by
  subst e
  refine has_P Dd S (fun ds n Φ h => ?_) fun f cdv B out t H E gu hr => ⟨body.ts K, hb f cdv B out t H E gu hr, fun W n ds Φ hK hC => ?_⟩
  · rw [hnp]; exact Nat.eq_of_beq_eq_true h.1
  · subst hK
    exact body.ok hn hC.2
theorem has_noneQ (Dd : DefIn K mg x st ps) (S : FnScope N ps (defScope st)) : Has P w K mg base (k + 1) x ps (spP K fun _ _ _ => False) :=
  has_P Dd S (fun ds n Φ h => h.elim) fun f cdv B out t H E gu hr => ⟨tNever, pss_never, fun W n ds Φ hK hC => hC.elim⟩
end
end FR
namespace FR
open PySem PySem.Spec PyProof.Rows L2
variable [TheW]

/-! ## enumerate over a list, a tuple or a text -/
/-- an iterator at it over what S tells -/
structure Src (P : Program) (w : World) (K : PySem.W.Frag) (it : Addr) (S : Hp → List V → Prop) (tn0 : Nat → Heap → Prop) : Prop where
  obj : ∀ i h, tn0 i h → ∃ o, h.get? it = some o ∧ ∀ v, o.data ≠ .cell v
  keep : ∀ i h h', tn0 i h → (∀ o, h.get? it = some o → h'.get? it = some o) → tn0 i h'
  draws : ∀ (X : Cx), X.prog = P → X.w = w → X.K = K → X.calm = true → ∀ (pins : List (Addr × Obj)) (s : Shared) (σ : L2.St) (H : Hp) (xs : List V) (i : Nat), Inv X pins σ H s → S H xs → tn0 i s.heap →
    ∃ (fp : List Addr) (St : Nat → Heap → Prop), Draws P w X.A.in1 it fp xs.length (fun i u => ∃ v, xs[i]? = some v ∧ RelV v u) St ∧ St i s.heap ∧ (∀ j h, St j h → tn0 j h) ∧ ∀ b ∈ fp, ∃ o, s.heap.get? b = some o ∧ o.cls ≠ .type "enumerate"
  one : ∀ (X : Cx), X.K = K → ∀ (pins : List (Addr × Obj)) (s : Shared) (σ : L2.St) (H : Hp) (xs ys : List V), Inv X pins σ H s → S H xs → S H ys → xs = ys
theorem valsV : ∀ {xs : List V} {us : List Value} {j : Nat} {u : Value}, Vals xs us → us[j]? = some u → ∃ v, xs[j]? = some v ∧ RelV v u
  | _, _, _, _, .nil, h => by simp at h
  | _, _, 0, u, .cons a b, h => by simp at h; subst h; exact ⟨_, rfl, a⟩
  | _, _, j + 1, u, .cons a b, h => by
    obtain ⟨v, h1, h2⟩ := valsV (j := j) b (by simpa using h)
    exact ⟨v, by simpa using h1, h2⟩
theorem draws_mono {P : Program} {w : World} {A : Around} {it : Addr} {fp : List Addr} {n : Nat} {Pv Pv' : Nat → Value → Prop} {St : Nat → Heap → Prop} (D : Draws P w A it fp n Pv St) (h : ∀ i x, Pv i x → Pv' i x) : Draws P w A it fp n Pv' St :=
  ⟨D.live, D.frame, fun i s Q E hi st hQ => D.item i s Q E hi st fun x h' tk p => hQ x h' tk (h i x p), D.done⟩
theorem src_list {P : Program} {w : World} {K : PySem.W.Frag} (it a : Addr) : Src P w K it (fun H xs => SqL K H a xs) (fun i h => h.IsListIter it a i) where
  obj := fun i h st => by obtain ⟨o, ho, hc, hd⟩ := st; exact ⟨o, ho, fun v q => by rw [hd] at q; cases q⟩
  keep := fun i h h' st k => st.at fun o e => k o e
  draws := by
    intro X hP hw hK hc pins s σ H xs i I hq st
    subst hP hw hK
    obtain ⟨its, rv, p, hz⟩ := I.list hq
    have hl : s.heap.IsList a its.toArray := p.isList
    have hne : a ≠ it := fun z => by
      obtain ⟨o, ho, hcl, _⟩ := hl
      obtain ⟨o', ho', hcl', _⟩ := st
      rw [z] at ho; rw [ho] at ho'; cases ho'
      rw [hcl] at hcl'; exact absurd hcl' (by decide)
    refine ⟨[it, a], (fun i h => h.IsListIter it a i ∧ h.IsList a its.toArray), draws_mono (by have D := Draws.list (prog := X.prog) (w := X.w) (A := X.A.in1) (show X.A.in1.handled = none from I.ok.hd hc) it a hne its.toArray; rw [List.size_toArray, ← rv.length] at D; exact D) fun j u hu => ?_, ⟨st, hl⟩, fun j h z => z.1, fun b hb => ?_⟩
    · have hu' : its[j]? = some u := by simpa using hu
      obtain ⟨v, hv, r⟩ := valsV rv hu'
      exact ⟨v, hv, r⟩
    · have e' : b = it ∨ b = a := by simpa using hb
      rcases e' with z | z
      · obtain ⟨o, ho, hcl, _⟩ := st
        rw [z]; exact ⟨o, ho, fun q => by rw [hcl] at q; exact absurd q (by decide)⟩
      · obtain ⟨o, ho, hcl, _⟩ := hl
        rw [z]; exact ⟨o, ho, fun q => by rw [hcl] at q; exact absurd q (by decide)⟩
  one := fun X hK pins s σ H xs ys I h1 h2 => by subst hK; exact I.list_inj h1 h2
theorem src_tup {P : Program} {w : World} {K : PySem.W.Frag} (it a : Addr) : Src P w K it (fun H xs => SqT K H a xs) (fun i h => h.IsTupleIter it a i) where
  obj := fun i h st => by obtain ⟨o, ho, hc, hd⟩ := st; exact ⟨o, ho, fun v q => by rw [hd] at q; cases q⟩
  keep := fun i h h' st k => st.at fun o e => k o e
  draws := by
    intro X hP hw hK hc pins s σ H xs i I hq st
    subst hP hw hK
    obtain ⟨its, rv, p, hz⟩ := I.tuple hq
    have hl : s.heap.IsTuple a its.toArray := p
    have hne : a ≠ it := fun z => by
      obtain ⟨o, ho, hcl, _⟩ := hl
      obtain ⟨o', ho', hcl', _⟩ := st
      rw [z] at ho; rw [ho] at ho'; cases ho'
      rw [hcl] at hcl'; exact absurd hcl' (by decide)
    refine ⟨[it, a], (fun i h => h.IsTupleIter it a i ∧ h.IsTuple a its.toArray), draws_mono (by have D := Draws.tuple (prog := X.prog) (w := X.w) (A := X.A.in1) (show X.A.in1.handled = none from I.ok.hd hc) it a hne its.toArray; rw [List.size_toArray, ← rv.length] at D; exact D) fun j u hu => ?_, ⟨st, hl⟩, fun j h z => z.1, fun b hb => ?_⟩
    · have hu' : its[j]? = some u := by simpa using hu
      obtain ⟨v, hv, r⟩ := valsV rv hu'
      exact ⟨v, hv, r⟩
    · have e' : b = it ∨ b = a := by simpa using hb
      rcases e' with z | z
      · obtain ⟨o, ho, hcl, _⟩ := st
        rw [z]; exact ⟨o, ho, fun q => by rw [hcl] at q; exact absurd q (by decide)⟩
      · obtain ⟨o, ho, hcl, _⟩ := hl
        rw [z]; exact ⟨o, ho, fun q => by rw [hcl] at q; exact absurd q (by decide)⟩
  one := fun X hK pins s σ H xs ys I h1 h2 => by subst hK; exact I.tuple_inj h1 h2
theorem iterTy_ne (x : Str) : Value.type (strIterType x) ≠ .type "enumerate" := by
  unfold strIterType
  split <;> decide
theorem src_str {P : Program} {w : World} {K : PySem.W.Frag} (it : Addr) (z : Str) (t : Tok) : Src P w K it (fun _ xs => xs = z.cps.toList.map fun c => V.str ⟨#[c]⟩) (fun i h => h.IsStrIter it (strIterType z) z t i) where
  obj := fun i h st => by obtain ⟨o, ho, hc, hd⟩ := st; exact ⟨o, ho, fun v q => by rw [hd] at q; cases q⟩
  keep := fun i h h' st k => by obtain ⟨o, ho, r⟩ := st; exact ⟨o, k o ho, r⟩
  draws := by
    intro X hP hw hK hc pins s σ H xs i I hq st
    subst hP hw hK hq
    refine ⟨[it], _, draws_mono (by have D := Draws.text (prog := X.prog) (w := X.w) (A := X.A.in1) (show X.A.in1.handled = none from I.ok.hd hc) it z t; rw [← Array.length_toList] at D; rw [List.length_map]; exact D) fun j u hu => ?_, st, fun j h z => z, fun b hb => ?_⟩
    · obtain ⟨c, tk, h1, rfl⟩ := hu
      refine ⟨.str ⟨#[c]⟩, ?_, ⟨tk, rfl⟩⟩
      rw [List.getElem?_map, Array.getElem?_toList, h1]; rfl
    · have e' : b = it := by simpa using hb
      obtain ⟨o, ho, hcl, _⟩ := st
      rw [e']; exact ⟨o, ho, fun q => by rw [hcl] at q; exact iterTy_ne z q⟩
  one := fun X hK pins s σ H xs ys I h1 h2 => h1.trans h2.symm

def IteG (S : Hp → List V → Prop) (k0 : Int) : It :=
  ⟨fun i H => ∃ (xs : List V) (x : V), S H xs ∧ xs[i]? = some x, fun i H v H' => ∃ T x, v = .ref T ∧ H T = none ∧ H' = upd H T (.tup [.int (k0 + (i : Nat)), x]) ∧ ∀ xs, S H xs → xs[i]? = some x, fun i H => ∃ xs : List V, S H xs ∧ xs.length = i⟩
theorem turn_enumG {P : Program} {w : World} {K : PySem.W.Frag} {elts : List Expr} {kk : Nat} {tpos : Pos} {e it : Addr} {S : Hp → List V → Prop} {tn0 : Nat → Heap → Prop} (k0 : Int) (src : Src P w K it S tn0) :
    Turn P w K (.Tuple elts kk tpos) (IteG S k0) [e, it] e (fun i h => (∃ old, IsEnum h e it (k0 + ((i : Nat) : Int)) old) ∧ tn0 i h ∧ e ≠ it) where
  mem := by simp
  obj := fun i h st b hb => by
    obtain ⟨⟨old, he⟩, hi, _⟩ := st
    have e' : b = e ∨ b = it := by simpa using hb
    rcases e' with z | z
    · rw [z]; exact ⟨_, he, fun v q => nomatch q⟩
    · rw [z]; exact src.obj i h hi
  keep := fun i h h' st k => let ⟨⟨old, he⟩, hi, hne⟩ := st; ⟨⟨old, k e (by simp) _ he⟩, src.keep i h h' hi fun o q => k it (by simp) o q, hne⟩
  item := by
    intro X hP hw hK hc i pins s σ H E I hf st hg
    obtain ⟨⟨old, he⟩, hit, hne⟩ := st
    obtain ⟨xs, x, hq, hx⟩ := hg
    obtain ⟨fp0, St, D, st0, stn, hob⟩ := src.draws X hP hw hK hc pins s σ H xs i I hq hit
    have one := src.one X hK pins s σ H
    subst hP hw hK
    have hlt : i < xs.length := (List.getElem?_eq_some_iff.mp hx).1
    have hel : e < s.heap.objs.size := Heap.lt_size he
    have hil : it < s.heap.objs.size := by obtain ⟨_, q, _⟩ := src.obj i _ hit; exact Heap.lt_size q
    have hef : e ∉ fp0 := fun z => by
      obtain ⟨o, ho, hn⟩ := hob e z
      have he' : s.heap.get? e = some _ := he
      rw [he'] at ho; cases ho
      exact hn rfl
    refine wpAny_pyNext_enum_itemC D he st0 hlt hne hef fun u h' tk hPx ho hs' hT hsz hk => ?_
    obtain ⟨v, hv, ru⟩ := hPx
    rw [hx] at hv; cases hv
    refine ⟨_, rfl, wpAny_letOwnedTupleGo_enum (s := { s with heap := h', toks := tk + 1 }) ho fun h'' he' sb => ?_⟩
    have hT2 : h''.get? s.heap.objs.size = some { cls := .type "tuple", data := .seq #[.int (k0 + (i : Nat)) tk, u] } := (sb.2 _ (Nat.ne_of_gt hel)).trans hT
    have new : ObjOk X.prog X.w (upd H s.heap.objs.size (.tup [.int (k0 + (i : Nat)), x])) h'' s.heap.objs.size (.tup [.int (k0 + (i : Nat)), x]) :=
      ⟨by show 2 ≤ sizeLine; decide, [.int (k0 + (i : Nat)) tk, u], .cons ⟨_, rfl⟩ (.cons ru .nil), ⟨_, hT2, rfl, _, rfl⟩⟩
    have I1 : Inv X pins σ (upd H s.heap.objs.size (.tup [.int (k0 + (i : Nat)), x])) { s with heap := h'', toks := tk + 1 } :=
      I.turnedNew (ch := [e, it]) (fun b ob hb q => (sb.2 b (fun z => hb (by simp [z]))).trans (hk b ob (fun z => hb (by simp [z])) (fun z => hb (by simp [z])) q)) hf (Nat.le_refl _) new
    refine ⟨.ref s.heap.objs.size, _, I1, rfl, ⟨_, x, rfl, I.hok.fresh (Nat.le_refl _), rfl, fun ys hy => by rw [one ys xs I hy hq]; exact hx⟩, ⟨⟨u, ?_⟩, src.keep _ _ _ (stn _ _ hs') (fun o q => (sb.2 it (Ne.symm hne)).trans q), hne⟩, fun b hb => ?_⟩
    · have e1 : k0 + ((i + 1 : Nat) : Int) = k0 + (i : Int) + 1 := by omega
      rw [e1]; exact he'
    · have hb' : b < s.heap.objs.size := by
        have e' : b = e ∨ b = it := by simpa using hb
        rcases e' with z | z
        · rw [z]; exact hel
        · rw [z]; exact hil
      rw [upd_ne (Nat.ne_of_lt hb')]
      exact (hf b hb).1
  done := by
    intro X hP hw hK hc i pins s σ H E I hf st hg
    obtain ⟨⟨old, he⟩, hit, hne⟩ := st
    obtain ⟨xs, hq, hx⟩ := hg
    obtain ⟨fp0, St, D, st0, stn, hob⟩ := src.draws X hP hw hK hc pins s σ H xs i I hq hit
    subst hP hw hK hx
    obtain ⟨f0, f1, f2, f3, f4, f5⟩ := hf it (by simp)
    exact wpAny_pyNext_enum_endD D he st0 fun h' eb => ⟨rfl, I.turned (t' := s.toks) (fun b o hb q => eb b o hb q) f0 f1 f3 f4 f5⟩
  self := fun A i s Q E st h => let ⟨⟨_, he⟩, _⟩ := st; wpAny_pyIter_enum he h

set_option maxHeartbeats 1000000 in
theorem meets_enumerate_new1 {v : Value} {o : Obj} {H : Heap → Prop} (B : Begins v o H) :
    Meets (Builtin.«enumerate.__new__» ⟨[.type "enumerate", v], []⟩) (fun _ R s => H s.heap ∧
      R (.ok (.ret (.ref (s.heap.push o).objs.size))) { s with heap := (s.heap.push o).push { cls := .type "enumerate", data := .fields #[.none, .bool false, .ref s.heap.objs.size, rawInt 0, .none, .none] } }) :=
  .of_wp fun prog w A R s h => by
    obtain ⟨hp, g, d, tk, os⟩ := s; obtain ⟨h1, h⟩ := h
    have hsub := sub_enumerate
    have q1 : ∀ {A' : Around} {E : Value → Shared → Prop} {Q : Value → Shared → Prop}, Q (.ref hp.objs.size) ⟨hp.push o, g, d, tk, os⟩ → wpAny (model prog w) A' (pyIter v) Q E ⟨hp, g, d, tk, os⟩ :=
      fun q => B.iter prog w _ _ ⟨hp, g, d, tk, os⟩ _ h1 q
    wp_walk using q1
    refine wpAny_stack_any fun st => wpAny_pure ?_
    split
    · rename_i c _ _ _ _ _
      cases (c == Value.type "enumerate")
      · wp_walk using q1
        exact ⟨_, rfl, h⟩
      · wp_walk using q1
        exact ⟨_, rfl, h⟩
    · wp_walk using q1
      exact ⟨_, rfl, h⟩
theorem enum_begins1 {prog : Program} {w : World} {A : Around} {Ex : Value → Shared → Prop} {s : Shared} {v : Value} {o : Obj} {H : Heap → Prop} {Q : Value → Shared → Prop} (B : Begins v o H) (h1 : H s.heap)
    (h : ∀ h', IsEnum h' (s.heap.objs.size + 1) s.heap.objs.size 0 .none → h'.get? s.heap.objs.size = some o → h'.objs.size = s.heap.objs.size + 2 →
      (∀ b o, s.heap.get? b = some o → h'.get? b = some o) → Q (.ref (s.heap.objs.size + 1)) { s with heap := h' }) :
    wpAny (model prog w) A (call (.type "enumerate") [v]) Q Ex s := by
  refine callType_new F.called_enumerate (by decide) (F.typeCall_enumerate_1 _) (F.newCall_enumerate_1 _) (fun obj => F.args_object_init_2 obj _) F.entry_enumerate_new
    (meets_enumerate_new1 B) ⟨h1, ?_⟩
  have hz : (s.heap.push o).objs.size = s.heap.objs.size + 1 := Heap.size_push ..
  show _ ∧ _
  rw [hz]
  have he : IsEnum ((s.heap.push o).push { cls := .type "enumerate", data := .fields #[.none, .bool false, .ref s.heap.objs.size, rawInt 0, .none, .none] }) (s.heap.objs.size + 1) s.heap.objs.size 0 .none := by
    have := Heap.get?_push_size (s.heap.push o) (o := { cls := .type "enumerate", data := .fields #[.none, .bool false, .ref s.heap.objs.size, rawInt 0, .none, .none] }) rfl
    rw [hz] at this; exact this
  refine ⟨⟨_, he, rfl⟩, h _ he (Heap.get?_push_of_some _ (Heap.get?_push_size _ B.free)) (by rw [Heap.size_push, hz]) fun b o x => Heap.get?_push_of_some _ (Heap.get?_push_of_some _ x)⟩
/-- where an enumerate begins -/
def enBeg (K : PySem.W.Frag) (k0 : Int) (x : V) (H1 : Hp) (R : It → Hp → Prop) : Prop :=
  (∃ a, x = .ref a ∧ (∃ xs, SqT K H1 a xs) ∧ R (IteG (fun H xs => SqT K H a xs) k0) H1) ∨ (∃ a, x = .ref a ∧ (∃ xs, SqL K H1 a xs) ∧ R (IteG (fun H xs => SqL K H a xs) k0) H1) ∨ ∃ z, x = .str z ∧ R (IteG (fun _ xs => xs = z.cps.toList.map fun c => V.str ⟨#[c]⟩) k0) H1
def iEnum1 (K : PySem.W.Frag) (ta : TA) : TI := fun σ H R => ta σ H fun vs H1 => ∃ x, vs = [x] ∧ enBeg K 0 x H1 R
def iEnum2 (K : PySem.W.Frag) (ta : TA) : TI := fun σ H R => ta σ H fun vs H1 => ∃ x k, vs = [x, .int k] ∧ -(2 ^ 62) ≤ k ∧ k < 2 ^ 62 ∧ enBeg K k x H1 R
section
variable {X : Cx} {K : PySem.W.Frag} {pins : List (Addr × Obj)} {σ : L2.St} {R : It → Hp → Prop}
theorem fp_two {H1 : Hp} {s1 : Shared} (I1 : Inv X pins σ H1 s1) : ∀ b ∈ [s1.heap.objs.size + 1, s1.heap.objs.size], FpOk X pins H1 b := fun b hb => by
  have e' : b = s1.heap.objs.size + 1 ∨ b = s1.heap.objs.size := by simpa using hb
  have hle : s1.heap.objs.size ≤ b := by
    rcases e' with z | z
    · rw [z]; exact Nat.le_add_right _ _
    · rw [z]; exact Nat.le_refl _
  exact I1.fpOk hle (I1.hok.fresh hle)
/-- an enumerate just made, whatever it goes over -/
theorem en_made {elts : List Expr} {kk : Nat} {tpos : Pos} {k0 : Int} {S : Hp → List V → Prop} {tn0 : Nat → Heap → Prop} {H1 : Hp} {s1 : Shared} {h' : Heap} (I1 : Inv X pins σ H1 s1) (src : Src X.prog X.w X.K s1.heap.objs.size S tn0)
    (he : IsEnum h' (s1.heap.objs.size + 1) s1.heap.objs.size k0 .none) (ht : tn0 0 h') (hk : ∀ b o, s1.heap.get? b = some o → h'.get? b = some o) (q : R (IteG S k0) H1) :
    wpAny (model X.prog X.w) X.A (pyIter (.ref (s1.heap.objs.size + 1))) (PIE X pins σ (.Tuple elts kk tpos) R) X.xe { s1 with heap := h' } := by
  refine wpAny_pyIter_enum he ?_
  have I2 : Inv X pins σ H1 { s1 with heap := h' } := I1.kept (t' := s1.toks) hk
  refine ⟨s1.heap.objs.size + 1, [s1.heap.objs.size + 1, s1.heap.objs.size], _, _, H1, rfl, I2, turn_enumG k0 src, ⟨⟨.none, ?_⟩, ht, Nat.succ_ne_self _⟩, fp_two I1, q⟩
  simpa using he
theorem r_enum1 {e : Expr} {ta : TA} {p pos tpos : Pos} {elts : List Expr} {kk : Nat} (hK : X.K = K) (hg : Gl X "enumerate") (hm : X.mg "enumerate" = none) (ha : PA X [e] ta) (hs : starEach [e] X.env = [(false, eval e X.env)] := by rfl) :
    PI X (.Tuple elts kk tpos) (.Call (.Name "enumerate" p) [e] [] pos) (iEnum1 K ta) := by
  subst hK
  refine ⟨fun pins s σ H R I h => ?_⟩
  refine Call_ (ld_blt I hg hm boot_enumerate (PyProof.Rows.callWith_type1 (thn (ha.run pos pins s σ H _ I h) fun us s1 ⟨vs, H1, I1, r1, q1⟩ => ?_) hs rfl))
  obtain ⟨x, ex, q⟩ := q1
  subst ex
  cases r1 with
  | cons r rr =>
    cases rr
    rcases q with ⟨a, e1, ⟨xs, hq⟩, q⟩ | ⟨a, e1, ⟨xs, hq⟩, q⟩ | ⟨z, e1, q⟩
    · subst e1; cases r
      obtain ⟨its, rv, p', hz⟩ := I1.tuple hq
      exact enum_begins1 (begins_tuple a its.toArray) p' fun h' he ho hsz hk => en_made I1 (src_tup _ a) he ⟨_, ho, rfl, rfl⟩ hk q
    · subst e1; cases r
      obtain ⟨its, rv, p', hz⟩ := I1.list hq
      exact enum_begins1 (begins_list a its.toArray) p'.isList fun h' he ho hsz hk => en_made I1 (src_list _ a) he ⟨_, ho, rfl, rfl⟩ hk q
    · subst e1
      obtain ⟨t, e2⟩ := r
      subst e2
      exact enum_begins1 (begins_text z t) trivial fun h' he ho hsz hk => en_made I1 (src_str _ z t) he ⟨_, ho, rfl, rfl⟩ hk q
theorem r_enum2 {e e2 : Expr} {ta : TA} {p pos tpos : Pos} {elts : List Expr} {kk : Nat} (hK : X.K = K) (hg : Gl X "enumerate") (hm : X.mg "enumerate" = none) (ha : PA X [e, e2] ta) (hs : starEach [e, e2] X.env = (false, eval e X.env) :: starEach [e2] X.env := by rfl) (hs2 : ((backTo pos (starEach [e2] X.env)).any fun x => x.fst) = false := by rfl) :
    PI X (.Tuple elts kk tpos) (.Call (.Name "enumerate" p) [e, e2] [] pos) (iEnum2 K ta) := by
  subst hK
  refine ⟨fun pins s σ H R I h => ?_⟩
  refine Call_ (ld_blt I hg hm boot_enumerate (PyProof.Rows.callWith_type1 (thn (ha.run pos pins s σ H _ I h) fun us s1 ⟨vs, H1, I1, r1, q1⟩ => ?_) hs hs2))
  obtain ⟨x, k, ex, k1, k2, q⟩ := q1
  subst ex
  cases r1 with
  | cons r rr =>
    cases rr with
    | cons rk rr =>
      cases rr
      obtain ⟨tk, ek⟩ := rk
      subst ek
      have k3 : -(2 ^ 63) ≤ k := by omega
      have k4 : k < 2 ^ 63 := by omega
      rcases q with ⟨a, e1, ⟨xs, hq⟩, q⟩ | ⟨a, e1, ⟨xs, hq⟩, q⟩ | ⟨z, e1, q⟩
      · subst e1; cases r
        obtain ⟨its, rv, p', hz⟩ := I1.tuple hq
        exact enum_begins (begins_tuple a its.toArray) p' k3 k4 fun h' he ho hsz hk => en_made I1 (src_tup _ a) he ⟨_, ho, rfl, rfl⟩ hk q
      · subst e1; cases r
        obtain ⟨its, rv, p', hz⟩ := I1.list hq
        exact enum_begins (begins_list a its.toArray) p'.isList k3 k4 fun h' he ho hsz hk => en_made I1 (src_list _ a) he ⟨_, ho, rfl, rfl⟩ hk q
      · subst e1
        obtain ⟨t, e2⟩ := r
        subst e2
        exact enum_begins (begins_text z t) trivial k3 k4 fun h' he ho hsz hk => en_made I1 (src_str _ z t) he ⟨_, ho, rfl, rfl⟩ hk q
end
/-! ### as what is walked -/
def enumD (k : Int) (ds : List D) : List D := ds.zipIdx.map fun p => D.tpk [.int (k + (p.2 : Nat)), p.1]
theorem enumD_len (k : Int) (ds : List D) : (enumD k ds).length = ds.length := by simp [enumD]
theorem enumD_at {k : Int} {ds : List D} {i : Nat} {d : D} (h : ds[i]? = some d) : (enumD k ds)[i]? = some (.tpk [.int (k + (i : Nat)), d]) := by
  unfold enumD
  rw [List.getElem?_map, List.getElem?_zipIdx, h]
  simp
theorem itD_en {K : PySem.W.Frag} {k : Int} {ds : List D} {S : Hp → List V → Prop} {s2 : List D} {v2 : List V} (hS : ∀ H, RpL K H v2 s2 → ∃ xs, S H xs ∧ xs.length = ds.length)
    (hY : ∀ (H : Hp) (i : Nat) (x : V) (hi : i < ds.length), (∀ xs : List V, S H xs → xs[i]? = some x) → ∀ M : List Addr, RpL K (era H M) v2 s2 → Rp K (era H M) x ds[i]) : ItD K (IteG S k) (enumD k ds) s2 v2 := ⟨by
  rw [enumD_len]
  refine ⟨fun H => RpL K H v2 s2, (IteG S k).yld, ⟨?_, ?_, fun _ _ _ _ _ _ y => y⟩, fun H h => h, ?_⟩
  · rintro i H hi rl
    obtain ⟨xs, h1, h2⟩ := hS H rl
    exact ⟨xs, xs[i]'(by omega), h1, by simp [show i < xs.length by omega]⟩
  · rintro H rl
    obtain ⟨xs, h1, h2⟩ := hS H rl
    exact ⟨xs, h1, h2⟩
  · rintro i H u H' hi rl ⟨T, x, rfl, hT, rfl, y1⟩
    refine ⟨.tpk [.int (k + (i : Nat)), ds[i]], enumD_at (by simp [hi]), same_new hT, fun M hM rl2 => ?_⟩
    have nT : T ∉ M := fun z => hM T z hT
    have em := era_mono M (same_new (o := .tup [.int (k + (i : Nat)), x]) hT)
    exact .tpk (.inl (era_of upd_same nT)) (.cons (.int _) (.cons ((hY H i x hi y1 M rl2).mono em) .nil))⟩
theorem enBeg_ok {W : Wo} {n : Nat} {env stk : List E} {σ : L2.St} {vs : L2.St} {k : Int} {d : D} {ds : List D} {v : V} {H1 : Hp} {R : It → Hp → Prop} (e : itemsOf d = some ds) (w1 : Wd W n env σ (.d d :: stk) (some v :: vs) H1)
    (kk : ∀ J s2 v2, v2.length = s2.length → Wd W n env σ (s2.map E.d ++ stk) (v2.map some ++ vs) H1 → ItD W.K J (enumD k ds) s2 v2 → R J H1) : enBeg W.K k v H1 R := by
  have t := w1.top
  cases d with
  | tup ys =>
    cases e
    cases t with
    | @tup a us _ hs hr =>
      refine .inl ⟨a, rfl, ⟨_, hs.sq⟩, kk _ [.tup ds] [.ref a] rfl w1 (itD_en (fun H rl => ?_) fun H i x hi y M rl => ?_)⟩
      · cases rl with
        | cons r _ => cases r with
          | tup a1 a2 => exact ⟨_, a1.sq, a2.len⟩
      · cases rl with
        | cons r _ => cases r with
          | @tup _ us2 _ a1 a2 =>
            have g := y _ (same_sqT (era_sub _ _) a1)
            obtain ⟨u1, e1, f1⟩ := a2.get (i := i) (x := ds[i]) (by simp [hi])
            rw [e1] at g; cases g
            exact f1
  | lst ys =>
    cases e
    cases t with
    | @lst a us _ hs hr =>
      refine .inr (.inl ⟨a, rfl, ⟨_, .inl (.inl hs)⟩, kk _ [.lst ds] [.ref a] rfl w1 (itD_en (fun H rl => ?_) fun H i x hi y M rl => ?_)⟩)
      · cases rl with
        | cons r _ => cases r with
          | lst a1 a2 => exact ⟨_, .inl (.inl a1), a2.len⟩
      · cases rl with
        | cons r _ => cases r with
          | @lst _ us2 _ a1 a2 =>
            have g := y _ (.inl (.inl (era_some a1).1))
            obtain ⟨u1, e1, f1⟩ := a2.get (i := i) (x := ds[i]) (by simp [hi])
            rw [e1] at g; cases g
            exact f1
  | str z =>
    cases e
    cases t
    refine .inr (.inr ⟨z, rfl, kk _ [] [] rfl w1.pop (itD_en (fun H rl => ⟨_, rfl, by simp [signs]⟩) fun H i x hi y M rl => ?_)⟩)
    have g := y _ rfl
    rw [List.getElem?_map] at g
    have hi2 : i < z.cps.toList.length := by simpa [signs] using hi
    rw [List.getElem?_eq_getElem hi2] at g
    cases g
    simp only [signs, List.getElem_map]
    exact .str _
  | _ => cases e
theorem wi_enum1 {W : Wo} {n : Nat} {env : List E} {ta : TA} {Φ : List D → Nat → Prop} (q : WpA W ta n env fun ds n1 => ∃ x xs, ds = [x] ∧ itemsOf x = some xs ∧ Φ (enumD 0 xs) n1) : WpI W (iEnum1 W.K ta) n env Φ := fun σ stk vs H R w k =>
  q σ stk vs H _ w fun us ds n1 H1 q1 l w1 => by
    obtain ⟨x, xs, rfl, e, q1⟩ := q1
    match us, l with
    | [u], _ => exact ⟨u, rfl, enBeg_ok e w1 fun J s2 v2 l2 w2 it => k J _ n1 H1 s2 v2 q1 l2 w2 it.up⟩
theorem wi_enum2 {W : Wo} {n : Nat} {env : List E} {ta : TA} {Φ : List D → Nat → Prop} (q : WpA W ta n env fun ds n1 => ∃ x xs j, ds = [x, .int j] ∧ itemsOf x = some xs ∧ sm62 j = true ∧ Φ (enumD j xs) n1) : WpI W (iEnum2 W.K ta) n env Φ := fun σ stk vs H R w k =>
  q σ stk vs H _ w fun us ds n1 H1 q1 l w1 => by
    obtain ⟨x, xs, j, rfl, e, hj, q1⟩ := q1
    match us, l with
    | [u, u2], _ =>
      have t := Wd.sees (us := [u, u2]) w1 rfl
      cases t with
      | cons t1 t2 =>
        cases t2 with
        | cons t2 t3 =>
          cases t2
          have w2 : Wd W n1 env σ (.d x :: stk) (some u :: vs) H1 := Wd.restk (ds := [x, .int j]) (us := [u, .int j]) (ds' := [x]) (us' := [u]) w1 rfl fun U _ r => by
            cases r with
            | cons r _ => exact .cons r .nil
          exact ⟨u, j, rfl, (sm62_inv hj).1, (sm62_inv hj).2, enBeg_ok e w2 fun J s2 v2 l2 w2 it => k J _ n1 H1 s2 v2 q1 l2 w2 it.up⟩
def jEnum1 (a : Exs) : Itx := ⟨fun K => iEnum1 K (a.ta K), fun env => (a.ev env).bind fun ds => match ds with
    | [x] => (itemsOf x).bind fun xs => some (enumD 0 xs)
    | _ => none, a.nd, fun {W n env ds Φ} k h q => by
  obtain ⟨ds, h1, h⟩ := bind_inv h
  split at h
  · obtain ⟨xs, h2, h⟩ := bind_inv h
    cases h; exact wi_enum1 (a.ok k h1 ⟨_, _, rfl, h2, q⟩)
  · cases h⟩
def jEnum2 (a : Exs) : Itx := ⟨fun K => iEnum2 K (a.ta K), fun env => (a.ev env).bind fun ds => match ds with
    | [x, .int j] => (itemsOf x).bind fun xs => when (sm62 j) (some (enumD j xs))
    | _ => none, a.nd, fun {W n env ds Φ} k h q => by
  obtain ⟨ds, h1, h⟩ := bind_inv h
  split at h
  · obtain ⟨xs, h2, h⟩ := bind_inv h
    obtain ⟨h3, h⟩ := when_inv h
    cases h; exact wi_enum2 (a.ok k h1 ⟨_, _, _, rfl, h2, h3, q⟩)
  · cases h⟩
theorem te_jEnum1 (a : Exs) (K : PySem.W.Frag) : (jEnum1 a).ti K = iEnum1 K (a.ta K) := rfl
theorem te_jEnum2 (a : Exs) (K : PySem.W.Frag) : (jEnum2 a).ti K = iEnum2 K (a.ta K) := rfl
end FR
namespace FR
open PySem PySem.Spec PyProof.Rows L2
variable [TheW]
theorem te_qCons (a : QE) (b : QA) (K : PySem.W.Frag) : (qCons a b).ta K = (tCons (a.te K) (b.ta K)) := rfl
theorem te_qTup (a : QA) (K : PySem.W.Frag) : (qTup a).te K = (tTupP (a.ta K)) := rfl
theorem te_qLst (a : QA) (K : PySem.W.Frag) : (qLst a).te K = (tLst (a.ta K)) := rfl
theorem te_qOp2 (s : Sem2) (a b : QE) (K : PySem.W.Frag) : (qOp2 s a b).te K = (tOp (s.r K) (a.te K) (b.te K)) := rfl
theorem te_qUn (s : Sem1) (a : QE) (K : PySem.W.Frag) : (qUn s a).te K = (tUn (s.r K) (a.te K)) := rfl
theorem te_qFn (s : SemN) (a : QA) (K : PySem.W.Frag) : (qFn s a).te K = (tCB (s.r K) (a.ta K)) := rfl
theorem te_qCall (f : List D → Option D) (a : QA) (K : PySem.W.Frag) : (qCall f a).te K = (tCall (spD K (CF f)) [] E0 (a.ta K)) := rfl
theorem te_qDraw (C : List D → Nat → (D → Nat → Prop) → Prop) (i : Nat) (a : QA) (K : PySem.W.Frag) : (qDraw C i a).te K = (tCall (spP K C) [] E0 (tCons (tVar i) (a.ta K))) := rfl
theorem te_qB (a : QE) (K : PySem.W.Frag) : (qB a).tt K = (tB (a.te K)) := rfl
theorem te_qTest (a : QE) (K : PySem.W.Frag) : (qTest a).tt K = (tTest (a.te K)) := rfl
theorem te_qNotT (a : QT) (K : PySem.W.Frag) : (qNotT a).tt K = (tNot (a.tt K)) := rfl
theorem te_qAndT (a b : QT) (K : PySem.W.Frag) : (qAndT a b).tt K = (tAnd (a.tt K) (b.tt K)) := rfl
theorem te_qOrT (a b : QT) (K : PySem.W.Frag) : (qOrT a b).tt K = (tOr (a.tt K) (b.tt K)) := rfl
theorem te_qAnd (a b : QE) (K : PySem.W.Frag) : (qAnd a b).te K = (tAndV (a.te K) (b.te K)) := rfl
theorem te_qOr (a b : QE) (K : PySem.W.Frag) : (qOr a b).te K = (tOrV (a.te K) (b.te K)) := rfl
theorem te_qNot (a : QE) (K : PySem.W.Frag) : (qNot a).te K = (tNotV (a.te K)) := rfl
theorem te_qIf (t : QT) (a b : QE) (K : PySem.W.Frag) : (qIf t a b).te K = (tIf (t.tt K) (a.te K) (b.te K)) := rfl
theorem te_qChain (s s' : Sem2) (a b c : QE) (K : PySem.W.Frag) : (qChain s s' a b c).te K = (tChain (s.r K) (s'.r K) (a.te K) (b.te K) (c.te K)) := rfl
theorem te_qPart (a : QE) (K : PySem.W.Frag) : (qPart a).to K = (tPart (a.te K)) := rfl
theorem te_qSeqI (e : QE) (K : PySem.W.Frag) : (qSeqI e).ti K = (iSeq K (e.te K)) := rfl
theorem te_qRange1 (a : QA) (K : PySem.W.Frag) : (qRange1 a).ti K = (iRng1 (a.ta K)) := rfl
theorem te_qRange2 (a : QA) (K : PySem.W.Frag) : (qRange2 a).ti K = (iRng2 (a.ta K)) := rfl
theorem te_qLc (it : QI) (g : Tgx) (t : QT) (e : QE) (sl : List Nat) (hL : (g.L.all fun i => sl.elem i) = true) (K : PySem.W.Frag) : (qLc it g t e sl hL).te K = (tLc (it.ti K) (g.tg K) (t.tt K) (e.te K) sl) := rfl
theorem te_qfLc (it : QI) (g : Tgx) (t : QT) (e : QE) (sl : List Nat) (hL : (g.L.all fun i => sl.elem i) = true) (K : PySem.W.Frag) : (qfLc it g t e sl hL).te K = (tLc (it.ti K) (g.tg K) (t.tt K) (e.te K) sl) := rfl
theorem te_qSeq (a b : QS) (K : PySem.W.Frag) : (qSeq a b).ts K = (tSeq (a.ts K) (b.ts K)) := rfl
theorem te_qDrop (e : QE) (K : PySem.W.Frag) : (qDrop e).ts K = (tDrop (e.te K)) := rfl
theorem te_qRet (e : QE) (K : PySem.W.Frag) : (qRet e).ts K = (tRet (e.te K)) := rfl
theorem te_qIfS (t : QT) (a b : QS) (K : PySem.W.Frag) : (qIfS t a b).ts K = (tIfS (t.tt K) (a.ts K) (b.ts K)) := rfl
theorem te_qAsg (e : QE) (g : Tgx) (K : PySem.W.Frag) : (qAsg e g).ts K = (tAsg (e.te K) (g.tg K)) := rfl
theorem te_qFor (it : QI) (g : Tgx) (b : QS) (K : PySem.W.Frag) : (qFor it g b).ts K = (tFor (it.ti K) (g.tg K) (b.ts K)) := rfl
theorem te_qWhile (fuel : List E → Nat) (t : QT) (b : QS) (K : PySem.W.Frag) : (qWhile fuel t b).ts K = (tWhile (t.tt K) (b.ts K)) := rfl
theorem te_qFz (is : List Nat) (s : QS) (K : PySem.W.Frag) : (qFz is s).ts K = (s.ts K) := rfl
theorem te_qSetF (i : Nat) (e : QF) (K : PySem.W.Frag) : (qSetF i e).ts K = (tAsg (e.te K) (gName i)) := rfl
theorem te_qAppend (i : Nat) (e : QE) (K : PySem.W.Frag) : (qAppend i e).ts K = (tDrop (tBM K "list" rAppend (tVar i) (tCons (e.te K) tNil))) := rfl
theorem te_qExtend (i : Nat) (e : QE) (K : PySem.W.Frag) : (qExtend i e).ts K = (tDrop (tBM K "list" rExtend (tVar i) (tCons (e.te K) tNil))) := rfl
theorem te_qPar (i j : Nat) (a : QA) (K : PySem.W.Frag) : (qPar i j a).ts K = (tPar i j (a.ta K)) := rfl
theorem te_qE (e : Ex) (K : PySem.W.Frag) : (qE e).te K = e.te K := rfl
theorem te_qA (e : Exs) (K : PySem.W.Frag) : (qA e).ta K = e.ta K := rfl
theorem te_qT (e : Ts) (K : PySem.W.Frag) : (qT e).tt K = e.tt K := rfl
theorem te_qI (e : Itx) (K : PySem.W.Frag) : (qI e).ti K = e.ti K := rfl
theorem te_qF (e : Fx) (K : PySem.W.Frag) : (qF e).te K = e.te K := rfl
theorem te_qP (e : Po) (K : PySem.W.Frag) : (qP e).to K = e.to K := rfl
theorem te_qS (e : Stx) (K : PySem.W.Frag) : (qS e).ts K = e.ts K := rfl
end FR
namespace FR
open PySem PySem.Spec PyProof.Rows L2
variable [TheW]

/-! ## x, y, .. = e, f, ..: some of them new things of one's own -/
theorem EnvOk.move {W : Wo} {U H : Hp} {e : E} {o : Option V} {es stk : List E} {us vs : L2.St} {M : List Addr} (l : us.length = es.length) (h : EnvOk W U H (es ++ (e :: stk)) (us ++ (o :: vs)) M) : ∃ M', M'.Perm M ∧ EnvOk W U H (e :: (es ++ stk)) (o :: (us ++ vs)) M' := by
  obtain ⟨Ma, Mb, rfl, ca, cb⟩ := EnvOk.cut l h
  cases e with
  | any => exact ⟨Ma ++ Mb, .refl _, EnvOk.app ca cb⟩
  | d x => exact ⟨Ma ++ Mb, .refl _, cb.1, EnvOk.app ca cb.2⟩
  | own x =>
    cases Mb with
    | nil => exact cb.elim
    | cons p Mb => exact ⟨p :: (Ma ++ Mb), List.perm_middle.symm, cb.1, EnvOk.app ca cb.2⟩
  | pot => exact ⟨Ma ++ Mb, .refl _, cb.1, EnvOk.app ca cb.2⟩
theorem era_perm {H : Hp} {A M1 M2 M2' : List Addr} (p : M2'.Perm M2) : era H (A ++ (M1 ++ M2')) = era H (A ++ (M1 ++ M2)) := by
  funext b
  unfold era
  have e : b ∈ A ++ (M1 ++ M2') ↔ b ∈ A ++ (M1 ++ M2) := by simp only [List.mem_append, p.mem_iff]
  by_cases z : b ∈ A ++ (M1 ++ M2)
  · rw [if_pos z, if_pos (e.mpr z)]
  · rw [if_neg z, if_neg fun y => z (e.mp y)]
theorem Wd.move {W : Wo} {n : Nat} {env : List E} {σ : L2.St} {H : Hp} {e : E} {o : Option V} {es stk : List E} {us vs : L2.St} (l : us.length = es.length) (w : Wd W n env σ (es ++ (e :: stk)) (us ++ (o :: vs)) H) : Wd W n env σ (e :: (es ++ stk)) (o :: (us ++ vs)) H := by
  obtain ⟨k, h, pp, M1, M2, a, nd, b, c⟩ := w
  obtain ⟨M2', p, c'⟩ := EnvOk.move l c
  have pm : (M1 ++ M2').Perm (M1 ++ M2) := List.Perm.append_left M1 p
  refine ⟨k, h, pp, M1, M2', fun q hq => a q (pm.mem_iff.mp hq), pm.nodup_iff.mpr nd, ?_, ?_⟩
  · rw [era_perm p]; exact b
  · rw [era_perm p]; exact c'
def WpM (W : Wo) (t : TA) (n : Nat) (env : List E) (Φ : List E → Nat → Prop) : Prop := ∀ (σ : L2.St) (stk : List E) (vs : L2.St) (H : Hp) (Q : List V → Hp → Prop), Wd W n env σ stk vs H →
  (∀ us es n' H', Φ es n' → us.length = es.length → Wd W n' env σ (es ++ stk) (us.map some ++ vs) H' → Q us H') → t σ H Q
section
variable {W : Wo} {n : Nat} {env : List E} {te : TE} {ta : TA} {Φ : List E → Nat → Prop} {O : Out} {t : TS}
theorem wpM_nil (q : Φ [] n) : WpM W tNil n env Φ := fun σ stk vs H Q w k => k [] [] n H q rfl w
theorem wpM_d (q : Wp W te n env fun x n1 => WpM W ta n1 env fun es n2 => Φ (.d x :: es) n2) : WpM W (tCons te ta) n env Φ := fun σ stk vs H Q w k =>
  q σ stk vs H _ w fun v d n1 H1 q1 w1 => q1 σ _ _ H1 _ w1 fun us es n2 H2 q2 l w2 => k (v :: us) (.d d :: es) n2 H2 q2 (by simp [l]) (Wd.move (by simp [l]) w2)
theorem wpM_o (q : WpF W te n env fun x n1 => WpM W ta n1 env fun es n2 => Φ (.own x :: es) n2) : WpM W (tCons te ta) n env Φ := fun σ stk vs H Q w k =>
  q σ stk vs H _ w fun p d n1 H1 q1 w1 => q1 σ _ _ H1 _ w1 fun us es n2 H2 q2 l w2 => k (.ref p :: us) (.own d :: es) n2 H2 q2 (by simp [l]) (Wd.move (by simp [l]) w2)
/-- the names as they are then -/
def parEnv : List Nat → List E → List E → Option (List E)
  | [], [], env => some env
  | i :: is, .d x :: es, env => parEnv is es (env.set i (.d x))
  | i :: is, .own x :: es, env => when (freeAt env i) (parEnv is es (env.set i (.own x)))
  | _, _, _ => none
def setAll : List Nat → List V → L2.St → L2.St
  | i :: is, v :: vs, σ => setAll is vs (σ.set i (some v))
  | _, _, σ => σ
theorem Wd.parEnv : ∀ {is : List Nat} {es : List E} {env env' : List E} {σ : L2.St} {us : List V} {stk : List E} {vs : L2.St} {H : Hp}, FR.parEnv is es env = some env' → us.length = es.length → Wd W n env σ (es ++ stk) (us.map some ++ vs) H → Wd W n env' (setAll is us σ) stk vs H
  | [], [], env, env', σ, [], stk, vs, H, h, _, w => by cases h; exact w
  | [], [], env, env', σ, _ :: _, stk, vs, H, h, l, w => by simp at l
  | i :: is, .d x :: es, env, env', σ, [], stk, vs, H, h, l, w => by simp at l
  | i :: is, .d x :: es, env, env', σ, u :: us, stk, vs, H, h, l, w => Wd.parEnv (is := is) (es := es) (us := us) h (by simpa using l) (Wd.set (x := x) (v := u) i w)
  | i :: is, .own x :: es, env, env', σ, [], stk, vs, H, h, l, w => by simp at l
  | i :: is, .own x :: es, env, env', σ, u :: us, stk, vs, H, h, l, w => by
    obtain ⟨h1, h2⟩ := when_inv h
    exact Wd.parEnv (is := is) (es := es) (us := us) h2 (by simpa using l) (Wd.ownSet (xs := x) (v := u) i (freeAt_inv h1).1 (freeAt_inv h1).2 w)
  | [], _ :: _, _, _, _, _, _, _, _, h, _, _ => by cases h
  | _ :: _, [], _, _, _, _, _, _, _, h, _, _ => by cases h
  | _ :: _, .any :: _, _, _, _, _, _, _, _, h, _, _ => by cases h
  | _ :: _, .pot :: _, _, _, _, _, _, _, _, h, _, _ => by cases h
def unowns (env : List E) : List Nat → List E
  | [] => env
  | i :: is => unowns (unown env i) is
theorem ws_unowns : ∀ {is : List Nat} {env : List E}, WpS W t n (unowns env is) O → WpS W t n env O
  | [], _, h => h
  | i :: is, env, h => ws_unown (ws_unowns (is := is) h)
theorem ws_parM2 {i j : Nat} (q : WpM W ta n env fun es n' => ∃ env', parEnv [i, j] es env = some env' ∧ O.nx env' n') : WpS W (tPar i j ta) n env O := fun σ stk vs H De w f =>
  q σ stk vs H _ w fun us es n' H' q' l w' => by
    obtain ⟨env', h1, h2⟩ := q'
    match es, us, l with
    | [_, _], [u, u'], l => exact ⟨u, u', rfl, f.nx _ _ _ n' h2 (Wd.parEnv h1 l w')⟩
    | [], _, _ => cases h1
    | [.d _], _, _ => cases h1
    | [.own _], _, _ => obtain ⟨_, h1⟩ := when_inv h1; cases h1
    | [.any], _, _ => cases h1
    | [.pot], _, _ => cases h1
    | a :: b :: c :: es, _, _ => cases a <;> cases b <;> first | cases h1 | (obtain ⟨_, h1⟩ := when_inv h1; cases h1) | (obtain ⟨_, h1⟩ := when_inv h1; obtain ⟨_, h1⟩ := when_inv h1; cases h1)
theorem parEnv_len : ∀ {is : List Nat} {es env env' : List E}, parEnv is es env = some env' → es.length = is.length
  | [], [], _, _, _ => rfl
  | [], _ :: _, _, _, h => by cases h
  | _ :: _, [], _, _, h => by cases h
  | i :: is, .d x :: es, _, _, h => by simpa using parEnv_len (is := is) (es := es) h
  | i :: is, .own x :: es, _, _, h => by simpa using parEnv_len (is := is) (es := es) (when_inv h).2
  | _ :: _, .any :: _, _, _, h => by cases h
  | _ :: _, .pot :: _, _, _, h => by cases h
theorem ws_parM3 {i j k : Nat} (q : WpM W ta n env fun es n' => ∃ env', parEnv [i, j, k] es env = some env' ∧ O.nx env' n') : WpS W (tPar3 i j k ta) n env O := fun σ stk vs H De w f =>
  q σ stk vs H _ w fun us es n' H' q' l w' => by
    obtain ⟨env', h1, h2⟩ := q'
    have l3 := parEnv_len h1
    match us, (show us.length = 3 by rw [l]; exact l3) with
    | [u, u', u''], _ => exact ⟨u, u', u'', rfl, f.nx _ _ _ n' h2 (Wd.parEnv h1 l w')⟩
def gNames : List Nat → TGs
  | [] => gNil
  | i :: is => gCons (gName i) (gNames is)
theorem gNames_run : ∀ {is : List Nat} {us : List V} {σ : L2.St} {H : Hp} {Q : L2.St → Hp → Prop}, us.length = is.length → Q (setAll is us σ) H → gNames is us σ H Q
  | [], [], σ, H, Q, _, q => ⟨rfl, q⟩
  | [], _ :: _, _, _, _, l, _ => by simp at l
  | _ :: _, [], _, _, _, l, _ => by simp at l
  | i :: is, u :: us, σ, H, Q, l, q => ⟨u, us, rfl, gNames_run (is := is) (by simpa using l) q⟩
theorem ws_parMN {is : List Nat} (q : WpM W ta n env fun es n' => ∃ env', parEnv is es env = some env' ∧ szOk es.length = true ∧ O.nx env' n') : WpS W (tAsg (tTupP ta) (gTup W.K is.length (gNames is))) n env O := fun σ stk vs H De w f =>
  q σ stk vs H _ w fun us es n' H' q' l w' => by
    obtain ⟨env', h1, hz, h2⟩ := q'
    have l3 := parEnv_len h1
    refine ⟨by rw [l]; exact szOk_le hz, fun p o hp hd => ⟨p, us, rfl, .inl (.inr ⟨o, upd_same⟩), by rw [l, l3], gNames_run (by rw [l, l3]) ?_⟩⟩
    exact f.nx _ _ _ n' h2 (Wd.parEnv h1 l (w'.mono (same_new hp)))
end
/-! ### drawing -/
inductive Mi where
  | d (e : QE) | o (e : QF)
def Mi.te : Mi → PySem.W.Frag → TE
  | .d e => e.te
  | .o e => e.te
def Mi.nd : Mi → PySem.W.Frag → Prop
  | .d e => e.nd
  | .o e => e.nd
def mxTa (K : PySem.W.Frag) : List Mi → TA
  | [] => tNil
  | m :: ms => tCons (m.te K) (mxTa K ms)
def mxNd : List Mi → PySem.W.Frag → Prop
  | [] => tru
  | m :: ms => two m.nd (mxNd ms)
def mxWp : List Mi → Nat → List E → (List E → Nat → Prop) → Prop
  | [], n, _, Φ => Φ [] n
  | .d e :: ms, n, env, Φ => e.wp n env fun x n1 => mxWp ms n1 env fun es n2 => Φ (.d x :: es) n2
  | .o e :: ms, n, env, Φ => e.wp n env fun x n1 => mxWp ms n1 env fun es n2 => Φ (.own x :: es) n2
theorem mx_ok {W : Wo} {env : List E} : ∀ {ms : List Mi} {n : Nat} {Φ : List E → Nat → Prop}, mxNd ms W.K → mxWp ms n env Φ → WpM W (mxTa W.K ms) n env Φ
  | [], _, _, _, h => wpM_nil h
  | .d e :: ms, _, _, k, h => wpM_d ((e.ok k.1 h).mono fun x n1 h1 => mx_ok k.2 h1)
  | .o e :: ms, _, _, k, h => wpM_o ((e.ok k.1 h).mono fun x n1 h1 => mx_ok k.2 h1)
theorem WpM.mono {W : Wo} {ta : TA} {n : Nat} {env : List E} {Φ Ψ : List E → Nat → Prop} (h : WpM W ta n env Φ) (f : ∀ es n, Φ es n → Ψ es n) : WpM W ta n env Ψ := fun σ stk vs H Q w k => h σ stk vs H Q w fun us es n' H' q => k us es n' H' (f _ _ q)
/-- os: the places that are let go first -/
def qParM2 (os : List Nat) (i j : Nat) (ms : List Mi) : QS := ⟨fun K => tPar i j (mxTa K ms), fun n env O => mxWp ms n (unowns env os) fun es n1 => ∃ env', parEnv [i, j] es (unowns env os) = some env' ∧ O.nx env' n1, mxNd ms, fun {W n env O} k h => ws_unowns (ws_parM2 (mx_ok k h))⟩
def qParM3 (os : List Nat) (i j l : Nat) (ms : List Mi) : QS := ⟨fun K => tPar3 i j l (mxTa K ms), fun n env O => mxWp ms n (unowns env os) fun es n1 => ∃ env', parEnv [i, j, l] es (unowns env os) = some env' ∧ O.nx env' n1, mxNd ms, fun {W n env O} k h => ws_unowns (ws_parM3 (mx_ok k h))⟩
def qParMN (os : List Nat) (is : List Nat) (ms : List Mi) : QS := ⟨fun K => tAsg (tTupP (mxTa K ms)) (gTup K is.length (gNames is)), fun n env O => mxWp ms n (unowns env os) fun es n1 => ∃ env', parEnv is es (unowns env os) = some env' ∧ szOk es.length = true ∧ O.nx env' n1, mxNd ms, fun {W n env O} k h => ws_unowns (ws_parMN (mx_ok k h))⟩
/-! ### pure -/
inductive Mp where
  | d (e : Ex) | o (e : Fx)
def Mp.te : Mp → PySem.W.Frag → TE
  | .d e => e.te
  | .o e => e.te
def Mp.nd : Mp → PySem.W.Frag → Prop
  | .d e => e.nd
  | .o e => e.nd
def mpTa (K : PySem.W.Frag) : List Mp → TA
  | [] => tNil
  | m :: ms => tCons (m.te K) (mpTa K ms)
def mpNd : List Mp → PySem.W.Frag → Prop
  | [] => tru
  | m :: ms => two m.nd (mpNd ms)
def mpEv : List Mp → List E → Option (List E)
  | [], _ => some []
  | .d e :: ms, env => (e.ev env).bind fun x => (mpEv ms env).bind fun es => some (.d x :: es)
  | .o e :: ms, env => (e.ev env).bind fun x => (mpEv ms env).bind fun es => some (.own x :: es)
theorem mp_ok {W : Wo} {env : List E} {n : Nat} : ∀ {ms : List Mp} {es : List E} {Φ : List E → Nat → Prop}, mpNd ms W.K → mpEv ms env = some es → Φ es n → WpM W (mpTa W.K ms) n env Φ
  | [], _, _, _, h, q => by cases h; exact wpM_nil q
  | .d e :: ms, _, _, k, h, q => by
    obtain ⟨x, h1, h⟩ := bind_inv h
    obtain ⟨es, h2, h⟩ := bind_inv h
    cases h
    exact wpM_d (e.ok k.1 h1 (mp_ok k.2 h2 q))
  | .o e :: ms, _, _, k, h, q => by
    obtain ⟨x, h1, h⟩ := bind_inv h
    obtain ⟨es, h2, h⟩ := bind_inv h
    cases h
    exact wpM_o (e.ok k.1 h1 (mp_ok k.2 h2 q))
def sParM2 (os : List Nat) (i j : Nat) (ms : List Mp) : Stx := ⟨fun K => tPar i j (mpTa K ms), fun env => (mpEv ms (unowns env os)).bind fun es => (parEnv [i, j] es (unowns env os)).bind fun env' => some (.nx env'), mpNd ms, fun {W n env fl O} k h q => by
  obtain ⟨es, h1, h⟩ := bind_inv h
  obtain ⟨env', h2, h⟩ := bind_inv h
  cases h
  exact ws_unowns (ws_parM2 (mp_ok k h1 ⟨_, h2, q⟩))⟩
def sParM3 (os : List Nat) (i j l : Nat) (ms : List Mp) : Stx := ⟨fun K => tPar3 i j l (mpTa K ms), fun env => (mpEv ms (unowns env os)).bind fun es => (parEnv [i, j, l] es (unowns env os)).bind fun env' => some (.nx env'), mpNd ms, fun {W n env fl O} k h q => by
  obtain ⟨es, h1, h⟩ := bind_inv h
  obtain ⟨env', h2, h⟩ := bind_inv h
  cases h
  exact ws_unowns (ws_parM3 (mp_ok k h1 ⟨_, h2, q⟩))⟩
def sParMN (os : List Nat) (is : List Nat) (ms : List Mp) : Stx := ⟨fun K => tAsg (tTupP (mpTa K ms)) (gTup K is.length (gNames is)), fun env => (mpEv ms (unowns env os)).bind fun es => when (szOk es.length) ((parEnv is es (unowns env os)).bind fun env' => some (.nx env')), mpNd ms, fun {W n env fl O} k h q => by
  obtain ⟨es, h1, h⟩ := bind_inv h
  obtain ⟨h3, h⟩ := when_inv h
  obtain ⟨env', h2, h⟩ := bind_inv h
  cases h
  exact ws_unowns (ws_parMN (mp_ok k h1 ⟨_, h2, h3, q⟩))⟩
theorem te_mxNil (K : PySem.W.Frag) : mxTa K [] = tNil := rfl
theorem te_mxD (K : PySem.W.Frag) (e : QE) (ms : List Mi) : mxTa K (.d e :: ms) = tCons (e.te K) (mxTa K ms) := rfl
theorem te_mxO (K : PySem.W.Frag) (e : QF) (ms : List Mi) : mxTa K (.o e :: ms) = tCons (e.te K) (mxTa K ms) := rfl
theorem te_mpNil (K : PySem.W.Frag) : mpTa K [] = tNil := rfl
theorem te_mpD (K : PySem.W.Frag) (e : Ex) (ms : List Mp) : mpTa K (.d e :: ms) = tCons (e.te K) (mpTa K ms) := rfl
theorem te_mpO (K : PySem.W.Frag) (e : Fx) (ms : List Mp) : mpTa K (.o e :: ms) = tCons (e.te K) (mpTa K ms) := rfl
theorem te_gNames0 : gNames [] = gNil := rfl
theorem te_gNames1 (i : Nat) (is : List Nat) : gNames (i :: is) = gCons (gName i) (gNames is) := rfl
theorem te_sParM2 (os : List Nat) (i j : Nat) (ms : List Mp) (K : PySem.W.Frag) : (sParM2 os i j ms).ts K = tPar i j (mpTa K ms) := rfl
theorem te_sParM3 (os : List Nat) (i j l : Nat) (ms : List Mp) (K : PySem.W.Frag) : (sParM3 os i j l ms).ts K = tPar3 i j l (mpTa K ms) := rfl
theorem te_sParMN (os is : List Nat) (ms : List Mp) (K : PySem.W.Frag) : (sParMN os is ms).ts K = tAsg (tTupP (mpTa K ms)) (gTup K is.length (gNames is)) := rfl
theorem te_qParM2 (os : List Nat) (i j : Nat) (ms : List Mi) (K : PySem.W.Frag) : (qParM2 os i j ms).ts K = tPar i j (mxTa K ms) := rfl
theorem te_qParM3 (os : List Nat) (i j l : Nat) (ms : List Mi) (K : PySem.W.Frag) : (qParM3 os i j l ms).ts K = tPar3 i j l (mxTa K ms) := rfl
theorem te_qParMN (os is : List Nat) (ms : List Mi) (K : PySem.W.Frag) : (qParMN os is ms).ts K = tAsg (tTupP (mxTa K ms)) (gTup K is.length (gNames is)) := rfl
end FR
namespace FR
open PySem PySem.Spec PyProof.Rows L2 PySem.W
variable [TheW]

/-! ## sorted(..) of data -/
section
variable {α : Type} (le : α → α → Bool)
def insL (x : α) : List α → List α
  | [] => [x]
  | y :: l => if le x y = true then x :: y :: l else y :: insL x l
def sortL : List α → List α
  | [] => []
  | x :: l => insL le x (sortL l)
variable {le}
theorem insL_perm (x : α) : ∀ l : List α, (insL le x l).Perm (x :: l)
  | [] => .refl _
  | y :: l => by
    unfold insL
    split
    · exact .refl _
    · exact ((insL_perm x l).cons y).trans (.swap x y l)
theorem sortL_perm : ∀ l : List α, (sortL le l).Perm l
  | [] => .refl _
  | x :: l => (insL_perm x _).trans ((sortL_perm l).cons x)
theorem insL_pw (T : TotalLe le) (x : α) : ∀ {l : List α}, l.Pairwise (fun a b => le a b = true) → (insL le x l).Pairwise (fun a b => le a b = true)
  | [], _ => by simp [insL]
  | y :: l, h => by
    obtain ⟨h1, h2⟩ := List.pairwise_cons.mp h
    unfold insL
    split
    · rename_i c
      refine List.pairwise_cons.mpr ⟨fun z hz => ?_, h⟩
      rcases List.mem_cons.mp hz with rfl | hz
      · exact c
      · exact T.trans _ _ _ c (h1 z hz)
    · rename_i c
      refine List.pairwise_cons.mpr ⟨fun z hz => ?_, insL_pw T x h2⟩
      rcases List.mem_cons.mp ((insL_perm x l).mem_iff.mp hz) with rfl | hz
      · exact (T.total y z).resolve_right c
      · exact h1 z hz
theorem sortL_pw (T : TotalLe le) : ∀ l : List α, (sortL le l).Pairwise (fun a b => le a b = true)
  | [] => .nil
  | x :: l => insL_pw T x (sortL_pw T l)
theorem insL_filter (T : TotalLe le) (c x : α) : ∀ l : List α, (insL le x l).filter (sameRank le c) = (x :: l).filter (sameRank le c)
  | [] => rfl
  | y :: l => by
    unfold insL
    split
    · rfl
    · rename_i h
      rw [List.filter_cons, insL_filter T c x l]
      by_cases hx : sameRank le c x = true
      · by_cases hy : sameRank le c y = true
        · exfalso
          unfold sameRank at hx hy
          rw [Bool.and_eq_true] at hx hy
          exact h (T.trans _ _ _ hx.2 hy.1)
        · rw [if_neg hy, List.filter_cons_of_pos hx, List.filter_cons_of_pos hx, List.filter_cons_of_neg hy]
      · rw [List.filter_cons_of_neg hx, List.filter_cons_of_neg hx, List.filter_cons]
theorem sortL_filter (T : TotalLe le) (c : α) : ∀ l : List α, (sortL le l).filter (sameRank le c) = l.filter (sameRank le c)
  | [] => rfl
  | x :: l => by
    rw [sortL, insL_filter T, List.filter_cons, List.filter_cons, sortL_filter T c l]
theorem sortL_eq (T : TotalLe le) (l : List α) : sortL le l = l.mergeSort le := sort_unique T (sortL_pw T l) fun c => sortL_filter T c l
theorem insL_map {β : Type} {le' : β → β → Bool} (f : α → β) (h : ∀ a b, le a b = le' (f a) (f b)) (x : α) : ∀ l : List α, (insL le x l).map f = insL le' (f x) (l.map f)
  | [] => rfl
  | y :: l => by
    rw [List.map_cons]
    unfold insL
    rw [h x y]
    split
    · rfl
    · rw [List.map_cons, insL_map f h x l]
theorem sortL_map {β : Type} {le' : β → β → Bool} (f : α → β) (h : ∀ a b, le a b = le' (f a) (f b)) : ∀ l : List α, (sortL le l).map f = sortL le' (l.map f)
  | [] => rfl
  | x :: l => by
    rw [sortL, insL_map f h, sortL_map f h l]
    rfl
end
def leD (a b : D) : Bool := !dataLt (py b) (py a)
def sortD (ds : List D) : List D := sortL leD ds
def notTN : D → Bool
  | .int _ => true
  | .bl _ => true
  | .str _ => true
  | .lst _ => true
  | _ => false
def consT : D → Bool
  | .tup (_ :: _) => true
  | _ => false
def sortOkD (ds : List D) : Bool := ds.all (fun a => noTy a && (ds.all fun b => alike (py a) (py b)) && Nat.ble (py a).depth 50) && (ds.all consT || ds.all notTN)
structure SortOk (ds : List D) : Prop where
  ty : noTyL ds = true
  al : AllAlike (ds.map py)
  so : Sortable (ds.map py)
  dp : ∀ d ∈ ds, (py d).depth ≤ 50
theorem noTyL_of : ∀ {ds : List D}, (∀ d ∈ ds, noTy d = true) → noTyL ds = true
  | [], _ => rfl
  | d :: ds, h => by rw [noTyL, h d (by simp), noTyL_of fun e he => h e (List.mem_cons_of_mem _ he)]; rfl
theorem sortOk_of {ds : List D} (h : sortOkD ds = true) : SortOk ds := by
  unfold sortOkD at h
  rw [Bool.and_eq_true, Bool.or_eq_true, List.all_eq_true] at h
  obtain ⟨h1, h2⟩ := h
  have h3 : ∀ d ∈ ds, noTy d = true ∧ (∀ b ∈ ds, alike (py d) (py b) = true) ∧ (py d).depth ≤ 50 := fun d hd => by
    have := h1 d hd
    rw [Bool.and_eq_true, Bool.and_eq_true, List.all_eq_true] at this
    exact ⟨this.1.1, this.1.2, Nat.le_of_ble_eq_true this.2⟩
  refine ⟨noTyL_of fun d hd => (h3 d hd).1, fun x hx y hy => ?_, ?_, fun d hd => (h3 d hd).2.2⟩
  · obtain ⟨a, ha, rfl⟩ := List.mem_map.mp hx
    obtain ⟨b, hb, rfl⟩ := List.mem_map.mp hy
    exact (h3 a ha).2.1 b hb
  · rcases h2 with h2 | h2
    · refine .inl fun x hx => ?_
      obtain ⟨a, ha, rfl⟩ := List.mem_map.mp hx
      have := List.all_eq_true.mp h2 a ha
      cases a with
      | tup xs =>
        cases xs with
        | nil => cases this
        | cons y ys => exact ⟨_, _, by rw [py, pyL]⟩
      | _ => cases this
    · refine .inr fun x hx => ?_
      obtain ⟨a, ha, rfl⟩ := List.mem_map.mp hx
      have := List.all_eq_true.mp h2 a ha
      cases a <;> first | (cases this; done) | (rw [py]; exact ⟨(fun z => by cases z), (fun _ z => by cases z)⟩)
theorem pyL_map : ∀ ds : List D, pyL ds = ds.map py
  | [] => rfl
  | d :: ds => by rw [pyL, pyL_map ds]; rfl
/-- values with their data, sorted by the data -/
def leP (a b : V × D) : Bool := leD a.2 b.2
def sortP (ps : List (V × D)) : List (V × D) := sortL leP ps
theorem leP_eq : leP = dataLe false (fun p : V × D => py p.2) := rfl
theorem rpL_zip {K : PySem.W.Frag} {U : Hp} : ∀ {xs : List V} {ds : List D}, RpL K U xs ds → ∀ p ∈ xs.zip ds, Rp K U p.1 p.2
  | _, _, .nil, p, hp => by cases hp
  | _, _, .cons a b, p, hp => by
    rcases List.mem_cons.mp hp with rfl | hp
    · exact a
    · exact rpL_zip b p hp
theorem rpL_sorted {K : PySem.W.Frag} {U : Hp} {xs : List V} {ds : List D} (r : RpL K U xs ds) : RpL K U ((sortP (xs.zip ds)).map Prod.fst) (sortD ds) := by
  have e : sortD ds = (sortP (xs.zip ds)).map Prod.snd := by
    unfold sortD sortP
    rw [sortL_map (le := leP) (le' := leD) Prod.snd (fun a b => rfl), List.map_snd_zip (by rw [r.len]; exact Nat.le_refl _)]
  rw [e]
  have hz : ∀ p ∈ xs.zip ds, Rp K U p.1 p.2 := rpL_zip r
  have : ∀ l : List (V × D), (∀ p ∈ l, Rp K U p.1 p.2) → RpL K U (l.map Prod.fst) (l.map Prod.snd) := by
    intro l hl
    induction l with
    | nil => exact .nil
    | cons p l ih => exact .cons (hl p (by simp)) (ih fun q hq => hl q (List.mem_cons_of_mem _ hq))
  exact this _ fun p hp => hz p ((sortL_perm _).mem_iff.mp hp)
def rSortL (K : PySem.W.Frag) : List V → Hp → VK → Prop := fun vs H Q => ∃ a xs ds, vs = [.ref a] ∧ SqL K H a xs ∧ RpL K H xs ds ∧ sortOkD ds = true ∧ ∀ p, H p = none → Q (.ref p) (upd H p (.lst ((sortP (xs.zip ds)).map Prod.fst)))
theorem vals_zip : ∀ {xs : List V} {us : List Value} {ds : List D}, Vals xs us → xs.length = ds.length → EachIs (fun u (p : V × D) => RelV p.1 u) us (xs.zip ds)
  | _, _, [], .nil, _ => .nil
  | _, _, _ :: _, .nil, h => by simp at h
  | _, _, [], .cons _ _, h => by simp at h
  | _, _, d :: ds, .cons a b, h => .cons a (vals_zip b (by simpa using h))
theorem each_vals : ∀ {us : List Value} {ps : List (V × D)}, EachIs (fun u (p : V × D) => RelV p.1 u) us ps → Vals (ps.map Prod.fst) us
  | _, _, .nil => .nil
  | _, _, .cons a b => .cons a (each_vals b)
theorem r_sortL {X : Cx} {K : PySem.W.Frag} (hK : X.K = K) (hu : X.A.units + 64 < cLine) (hb : SysB X.base) : CallR X (.builtin "sorted") (rSortL K) := by
  subst hK
  intro pins s σ H vs us Q I r h
  obtain ⟨a, xs, ds, rfl, hs, rl, ok, q⟩ := h
  obtain ⟨its, rv, hl, hz⟩ := I.list hs
  obtain ⟨u, rfl, ru⟩ := vals1 r
  obtain rfl : u = Value.ref a := ru
  obtain ⟨ty, al, so, dp⟩ := sortOk_of ok
  obtain ⟨as, ra, _⟩ := RpL.reads I hb ds xs its rl ty rv
  rw [pyL_map] at ra
  have lx : xs.length = ds.length := rl.len
  have em : (xs.zip ds).map (fun p : V × D => py p.2) = ds.map py := by
    have e1 : (xs.zip ds).map (fun p : V × D => py p.2) = ((xs.zip ds).map Prod.snd).map py := by rw [List.map_map]; rfl
    rw [e1, List.map_snd_zip (by rw [lx]; exact Nat.le_refl _)]
  refine sorted_data (R := fun u (p : V × D) => RelV p.1 u) (bs := xs.zip ds) (enc := fun p : V × D => py p.2) hl.isList (vals_zip rv lx) ?_ (by rw [em]; exact al) (by rw [em]; exact so) (by rw [List.length_zip]; omega) (fun p hp => ?_) fun out ol oe => ?_
  · rw [← em] at ra
    exact readsAll_each _ ra
  · have := dp p.2 (List.of_mem_zip hp).2
    omega
  · have T : TotalLe (dataLe false (fun p : V × D => py p.2)) := sortLe_total _ _ _
    rw [← sortL_eq T] at oe
    have hp : H (s.heap.objs.size + 1) = none := I.hok.fresh (Nat.le_succ _)
    obtain ⟨c, hc⟩ := sortedAll_at s.heap its out.toArray
    have rv2 : Vals ((sortP (xs.zip ds)).map Prod.fst) out := each_vals oe
    have hlen : ((sortP (xs.zip ds)).map Prod.fst).length ≤ sizeLine := by
      unfold sortP
      rw [List.length_map, (sortL_perm _).length_eq, List.length_zip]
      omega
    exact ⟨.ref (s.heap.objs.size + 1), upd H (s.heap.objs.size + 1) (.lst ((sortP (xs.zip ds)).map Prod.fst)), I.laid (t' := s.toks) (fun b o e => sortedAll_old e) (Nat.le_succ _) (show ObjOk X.prog X.w _ _ _ (.lst _) from ⟨hlen, out, c, rv2, hc⟩), rfl, q _ hp⟩
theorem key_str {P : Program} {w : World} {x : Str} {u : Value} (q : (mixKind P w).is (.inr x) u = true) : ∃ t, u = .str x t := by
  generalize hk : (Sum.inr x : Key) = k at q
  rcases keyIs_shape q with ⟨i, t, rfl, rfl⟩ | ⟨y, t, rfl, rfl⟩
  · cases hk
  · cases hk; exact ⟨t, rfl⟩
theorem kv_keys : ∀ {kvs : List (Key × V)} {vs : List (Key × Value)}, KV kvs vs → kvs.map Prod.fst = vs.map Prod.fst
  | _, _, .nil => rfl
  | _, _, .cons a b => by rw [List.map_cons, List.map_cons, kv_keys b, a.1]
/-- sorted(a dict by texts) -/
def rSortD (K : PySem.W.Frag) : List V → Hp → VK → Prop := fun vs H Q => ∃ a kvs ks, vs = [.ref a] ∧ Rd H a (.dK kvs) ∧ kvs.map Prod.fst = (ks.map Sum.inr : List Key) ∧ ∀ p, H p = none → Q (.ref p) (upd H p (.lst ((sortS ks).map V.str)))
theorem sortS_merge (ks : List Str) : ks.mergeSort (dataLe false PyData.str) = sortS ks := by
  have T : TotalLe (dataLe false (fun x : Str => PyData.str x)) := sortLe_total _ _ _
  refine sorted_one (((List.mergeSort_perm ks _)).trans (sortS_perm ks).symm) ?_ (sortS_sorted ks)
  refine (sort_pairwise T ks).imp fun {a b} h => ?_
  have h' : (!dataLt (.str b) (.str a)) = true := h
  rw [dataLt_str, Bool.not_eq_true'] at h'
  exact h'
theorem r_sortDc {X : Cx} {K : PySem.W.Frag} (hK : X.K = K) (hcalm : X.calm = true) (hu : X.A.units + 64 < cLine) : CallR X (.builtin "sorted") (rSortD K) := by
  subst hK
  intro pins s σ H vs us Q I r h
  obtain ⟨a, kvs, ks, rfl, hd, hk, q⟩ := h
  obtain ⟨u, rfl, ru⟩ := vals1 r
  obtain rfl : u = Value.ref a := ru
  obtain ⟨hlen, hsys, vs', kv, hdo⟩ := dk_rd I.hok hd
  obtain ⟨ep, hat⟩ := hdo.dictAt
  have lkv : kvs.length = vs'.length := Paired.length kv
  have lks : kvs.length = ks.length := by have := congrArg List.length hk; simpa using this
  refine Calls.call_function_entry kind_sorted plain_sorted entry_sorted (args_sorted1 _) ?_
  unfold Builtin.«sorted»
  refine wpAny_bind (m := checkCount "sorted" 1 1 _) (wpAny_pure ?_)
  refine wpAny_bind (kdu_collect (A := X.A.in1) (kdl_dict (knd := mixKind X.prog X.w) (kvs := vs') (ep := ep) hsys) (I.ok.hd hcalm) hat (by rw [← lkv]; exact hlen) fun h' tk acc hk' hacc => ?_)
  have hal : acc.toList.length = ks.length := by rw [Array.length_toList, hacc.1, ← lkv, lks]
  refine wpAny_bind (wpAny_newList ?_ (by rw [hal, ← lks]; exact hlen))
  have hkeys : vs'.map Prod.fst = (ks.map Sum.inr : List Key) := by
    rw [← hk]
    exact (kv_keys kv).symm
  have each : EachIs (fun (v : Value) (x : Str) => ∃ t, v = .str x t) acc.toList ks := by
    refine EachIs.of_zip hal fun p hp => ?_
    obtain ⟨j, hj⟩ := List.getElem?_of_mem hp
    rw [List.getElem?_zip_eq_some] at hj
    obtain ⟨k, x, hx, hkk⟩ := hacc.2 j p.1 (by rw [← Array.getElem?_toList]; exact hj.1)
    have e1 : (vs'.map Prod.fst)[j]? = some k := by rw [List.getElem?_map, hx]; rfl
    rw [hkeys, List.getElem?_map, hj.2] at e1
    have e2 : (Sum.inr p.2 : Key) = k := Option.some.inj e1
    subst e2
    exact key_str hkk
  have hoL : (h'.push (seqObj "list" acc.toList.toArray 0)).get? h'.objs.size = some (seqObj "list" acc.toList.toArray 0) := Heap.get?_push_size _ rfl
  refine wpAny_bind (wpAny_holding (list_sort_data (s := { s with heap := h'.push (seqObj "list" acc.toList.toArray 0), toks := tk }) (R := fun (v : Value) (x : Str) => ∃ t, v = .str x t) (bs := ks) (enc := PyData.str) hoL each (each.mono fun v x z => by
    obtain ⟨t, rfl⟩ := z
    exact ⟨[], .str x t, by simp⟩) (AllAlike.of fun _ _ => rfl) (Sortable.others fun b => ⟨(fun z => by cases z), (fun _ z => by cases z)⟩) (by rw [← lks]; exact hlen) (fun b _ => ?_) fun out ol oe => wpAny_pure ?_))
  · show X.A.units + 1 + 1 + 0 < cLine
    omega
  · rw [sortS_merge] at oe
    have I1 : Inv X pins σ H { s with heap := h', toks := tk } := I.kept hk'
    have hp : H h'.objs.size = none := I1.hok.fresh (Nat.le_refl _)
    obtain ⟨c, hc⟩ := sortedHeap_at (vs := acc.toList) (out := out.toArray) hoL
    have rv2 : Vals ((sortS ks).map V.str) out := by
      clear hc ol q
      generalize sortS ks = l at oe
      induction oe with
      | nil => exact .nil
      | cons a b ih =>
        obtain ⟨t, rfl⟩ := a
        exact .cons ⟨t, rfl⟩ ih
    have hl2 : ((sortS ks).map V.str).length ≤ sizeLine := by
      rw [List.length_map, (sortS_perm ks).length_eq, ← lks]
      exact hlen
    refine ⟨_, rfl, .ref h'.objs.size, upd H h'.objs.size (.lst ((sortS ks).map V.str)), I1.laid (t' := tk) (fun b o e => ?_) (Nat.le_refl _) (show ObjOk X.prog X.w _ _ _ (.lst _) from ⟨hl2, out, c, rv2, hc⟩), rfl, q _ hp⟩
    have lt := Heap.lt_size e
    refine ((sortedHeap_old (Nat.ne_of_lt lt) (Nat.lt_of_lt_of_le lt ?_)).trans (Heap.get?_push_of_some _ e) : (sortedHeap (h'.push (seqObj "list" acc.toList.toArray 0)) h'.objs.size acc.toList out.toArray).get? b = some o)
    exact Nat.le_of_lt (by rw [Heap.size_push]; exact Nat.lt_succ_self _)
/-! ### as an operation on data -/
theorem op_sortL {W : Wo} {n : Nat} {Φ : D → Nat → Prop} {ds : List D} (h : sortOkD ds = true) (q : Φ (.lst (sortD ds)) n) : OpN W (rSortL W.K) n [.lst ds] Φ :=
  opN1 fun env σ stk vs vx H Q w k => by
    obtain ⟨U, s, hh, f, g⟩ := w.view1
    cases hh with
    | lst a b =>
      refine ⟨_, _, ds, rfl, .inl (.inl (s _ _ a)), b.mono s, h, fun p hp => ?_⟩
      obtain ⟨U', s', e, g⟩ := g p (.lst _) hp
      exact k _ _ n _ q (g _ _ (.lst e ((rpL_sorted b).mono s')))
def txtKeys : List (Key × D) → Option (List Str)
  | [] => some []
  | (.inr x, _) :: r => (txtKeys r).bind fun xs => some (x :: xs)
  | _ => none
theorem txtKeys_inv : ∀ {kvs : List (Key × D)} {ks : List Str}, txtKeys kvs = some ks → kvs.map Prod.fst = (ks.map Sum.inr : List Key)
  | [], ks, h => by cases h; rfl
  | (k, x) :: r, ks, h => by
    cases k with
    | inl i => cases h
    | inr y =>
      obtain ⟨xs, h1, h2⟩ := bind_inv (o := txtKeys r) (f := fun xs => some (y :: xs)) h
      cases h2
      rw [List.map_cons, List.map_cons, txtKeys_inv h1]
theorem op_sortDc {W : Wo} {n : Nat} {Φ : D → Nat → Prop} {kvs : List (Key × D)} {ks : List Str} (h : txtKeys kvs = some ks) (q : Φ (.lst ((sortS ks).map .str)) n) : OpN W (rSortD W.K) n [.dct kvs] Φ :=
  opN1 fun env σ stk vs vx H Q w k => by
    obtain ⟨U, s, hh, f, g⟩ := w.view1
    cases hh with
    | dct a b =>
      refine ⟨_, _, ks, rfl, same_rd s a, by rw [← txtKeys_inv h]; exact b.keys, fun p hp => ?_⟩
      obtain ⟨U', s', e, g⟩ := g p (.lst _) hp
      exact k _ _ n _ q (g _ _ (.lst e (RpL.ofStrs _)))
def mSortL : SemN := mN1 (fun K => rSortL K) (fun x => match x with
    | .lst xs => when (sortOkD xs) (some (.lst (sortD xs)))
    | _ => none) fun {W n x d Φ} h q => by
  cases x with
  | lst xs => obtain ⟨h1, h2⟩ := when_inv h; cases h2; exact op_sortL h1 q
  | _ => cases h
def mSortDc : SemN := mN1 (fun K => rSortD K) (fun x => match x with
    | .dct kvs => (txtKeys kvs).bind fun ks => some (.lst ((sortS ks).map .str))
    | _ => none) fun {W n x d Φ} h q => by
  cases x with
  | dct kvs => obtain ⟨ks, h1, h2⟩ := bind_inv h; cases h2; exact op_sortDc h1 q
  | _ => cases h
def mSorted : SemN := mSortL.or mSortDc
theorem r_sorted {X : Cx} {K : PySem.W.Frag} (hK : X.K = K) (hcalm : X.calm = true) (hu : X.A.units + 64 < cLine) (hb : SysB X.base) : CallR X (.builtin "sorted") (mSorted.r K) := (r_sortL hK hu hb).or (r_sortDc hK hcalm hu)
end FR
namespace FR
open PySem PySem.Spec PyProof.Rows L2
variable [TheW]
/-! ## owned dicts, lists filled by place -/
def fDNew : Fx := ⟨fun _ => tDNewK, fun _ => some (.dct []), tru, fun _ h q σ stk vs H Q w k p hp => by
  cases h
  exact k p _ _ _ q (w.newOw hp fun _ => .dct .nil)⟩
theorem wf_dict {W : Wo} {n : Nat} {env : List E} {ta : TA} {Φ : D → Nat → Prop} (q : WpA W ta n env fun ds n1 => ∃ kvs : List (Key × D), ds = [.lst (kvs.map pairD)] ∧ Φ (.dct (mergeKD [] kvs)) n1) : WpF W (tCB (mDict.r W.K) ta) n env Φ := fun σ stk vs H Q w k =>
  q σ stk vs H _ w fun us ds n1 H1 q1 l w1 => by
    obtain ⟨kvs, rfl, qn⟩ := q1
    match us, l with
    | [u], _ =>
      have w2 : Wd W n1 env σ (.d (.lst (kvs.map pairD)) :: stk) (some u :: vs) H1 := w1
      obtain ⟨U, s, r, g⟩ := w2.ownFrom
      cases r with
      | lst a b =>
        obtain ⟨ps, zs, rfl, h2, h3⟩ := b.pairs
        exact .inr ⟨_, ps, zs, rfl, .inl (.inl (s _ _ a)), pairedImp (fun p kv z => same_sqT s z) h2, fun p hp => k p _ n1 _ qn (g p _ _ hp (.dct (RpK.merge .nil h3)))⟩
def fDict (a : Exs) : Fx := ⟨fun K => tCB (mDict.r K) (a.ta K), fun env => (a.ev env).bind fun ds => match ds with
    | [.lst xs] => (pairsOf_ xs).bind fun kvs => some (.dct (mergeKD [] kvs))
    | _ => none, a.nd, fun {W n env d Φ} k h q => by
  obtain ⟨ds, h1, h⟩ := bind_inv h
  split at h
  · obtain ⟨kvs, h2, h⟩ := bind_inv h
    cases h
    cases pairsOf_inv h2
    exact wf_dict (a.ok k h1 ⟨kvs, rfl, q⟩)
  · cases h⟩
def qfDict (a : QA) : QF := ⟨fun K => tCB (mDict.r K) (a.ta K), fun n env Φ => a.wp n env fun ds n1 => ∃ xs kvs, ds = [.lst xs] ∧ pairsOf_ xs = some kvs ∧ Φ (.dct (mergeKD [] kvs)) n1, a.nd, fun {W n env Φ} k h => wf_dict ((a.ok k h).mono fun ds n1 h1 => by
  obtain ⟨xs, kvs, rfl, h2, h3⟩ := h1
  exact ⟨kvs, by rw [pairsOf_inv h2], h3⟩)⟩
def qfLst (a : QA) : QF := ⟨fun K => tLst (a.ta K), fun n env Φ => a.wp n env fun xs n1 => szOk xs.length = true ∧ Φ (.lst xs) n1, a.nd, fun {W n env Φ} k h => wf_lst ((a.ok k h).mono fun ds n1 h1 => ⟨szOk_le h1.1, h1.2⟩)⟩
/-- d[k] = v -/
def sDPut_ (i : Nat) (ke ve : Ex) : Stx := ⟨fun K => sDPut (tVar i) (ke.te K) (ve.te K), fun env => (ownAt env[i]?).bind fun x => (dctOf x).bind fun kvs => (ve.ev env).bind fun y => (ke.ev env).bind fun z => (keyOf z).bind fun key => when (Nat.blt kvs.length 16777216) (some (.nx (env.set i (.own (.dct (putKD kvs key y)))))), two ve.nd ke.nd, fun {W n env fl O} k h q => by
  obtain ⟨x, h1, h⟩ := bind_inv h
  obtain ⟨kvs, h2, h⟩ := bind_inv h
  obtain ⟨y, h3, h⟩ := bind_inv h
  obtain ⟨z, h4, h⟩ := bind_inv h
  obtain ⟨key, h5, h⟩ := bind_inv h
  obtain ⟨h6, h⟩ := when_inv h
  cases h
  cases dctOf_inv h2
  exact ws_dput (ownAt_inv h1) (by rw [sizeLine_eq]; exact Nat.le_of_ble_eq_true h6) (ve.ok k.1 h3 (ke.ok k.2 h4 ⟨key, keyOf_inv h5, q⟩))⟩
/-- [..] * k -/
theorem RpL.repL {K : PySem.W.Frag} {U : Hp} {xs : List V} {ds : List D} (h : RpL K U xs ds) : ∀ k : Nat, RpL K U (List.replicate k xs).flatten (List.replicate k ds).flatten
  | 0 => .nil
  | k + 1 => by
    rw [List.replicate_succ, List.replicate_succ, List.flatten_cons, List.flatten_cons]
    exact h.app (RpL.repL h k)
theorem sm63 {k : Int} (h : sm62 k = true) : -(2 ^ 63) ≤ k ∧ k < 2 ^ 63 := by
  have := sm62_inv h
  omega
def mRep : Sem2 := ⟨fun _ => rRep, fun x y => match x, y with
    | .lst xs, .int k => when (sm62 k && szOk (xs.length * k.toNat)) (some (.lst (List.replicate k.toNat xs).flatten))
    | _, _ => none, fun {W n x y d Φ} h q => by
  cases x with
  | lst xs =>
    cases y with
    | int k =>
      obtain ⟨h1, h2⟩ := when_inv h
      cases h2
      rw [Bool.and_eq_true] at h1
      refine fun env σ stk vs vx vy H Q w kk => ?_
      obtain ⟨U, s, r, g⟩ := Wd.ownFromL (us := [vy, vx]) (ds := [.int k, .lst xs]) rfl w
      cases r with
      | cons r1 r2 =>
        cases r1
        cases r2 with
        | cons r2 _ =>
          cases r2 with
          | @lst a us _ ha hb =>
            refine ⟨a, k, us, rfl, rfl, s _ _ ha, (sm63 h1.1).1, (sm63 h1.1).2, by rw [hb.len]; exact szOk_le h1.2, fun p hp => ?_⟩
            exact kk _ _ n _ q (g p _ _ hp (.lst (hb.rep k.toNat))).freeze
    | _ => cases h
  | _ => cases h⟩
def fRep (a b : Ex) : Fx := ⟨fun K => tOp (mRep.r K) (a.te K) (b.te K), fun env => (a.ev env).bind fun x => (b.ev env).bind fun y => mRep.f x y, two a.nd b.nd, fun {W n env d Φ} k h q σ stk vs H Q w kk => by
  obtain ⟨x, h1, h⟩ := bind_inv h
  obtain ⟨y, h2, h⟩ := bind_inv h
  refine a.ok (Φ := fun d m => d = x ∧ m = n) k.1 h1 ⟨rfl, rfl⟩ σ stk vs H _ w fun vx x' n1 H1 e1 w1 => ?_
  obtain ⟨rfl, rfl⟩ := e1
  refine b.ok (Φ := fun d m => d = y ∧ m = n1) k.2 h2 ⟨rfl, rfl⟩ σ _ _ H1 _ w1 fun vy y' n2 H2 e2 w2 => ?_
  obtain ⟨rfl, rfl⟩ := e2
  cases x' with
  | lst xs =>
    cases y' with
    | int j =>
      obtain ⟨h3, h4⟩ := when_inv h
      cases h4
      rw [Bool.and_eq_true] at h3
      obtain ⟨U, s, r, g⟩ := Wd.ownFromL (us := [vy, vx]) (ds := [.int j, .lst xs]) rfl w2
      cases r with
      | cons r1 r2 =>
        cases r1
        cases r2 with
        | cons r2 _ =>
          cases r2 with
          | @lst a us _ ha hb =>
            exact ⟨a, j, us, rfl, rfl, s _ _ ha, (sm63 h3.1).1, (sm63 h3.1).2, by rw [hb.len]; exact szOk_le h3.2, fun p hp => kk p _ n2 _ q (g p _ _ hp (.lst (hb.rep j.toNat)))⟩
    | _ => cases h
  | _ => cases h⟩
theorem RpL.set {K : PySem.W.Frag} {U : Hp} {v : V} {d : D} (h : Rp K U v d) : ∀ {xs : List V} {ds : List D} (j : Nat), RpL K U xs ds → RpL K U (xs.set j v) (ds.set j d)
  | _, _, _, .nil => .nil
  | _, _, 0, .cons _ b => .cons h b
  | _, _, j + 1, .cons a b => .cons a (RpL.set h j b)
/-- xs[e] = v -/
def sIxPut (i : Nat) (ie ve : Ex) : Stx := ⟨fun K => tAsg (ve.te K) (gSub (tVar i) (ie.te K) rSetL), fun env => (ownAt env[i]?).bind fun x => (lstOf x).bind fun xs => (ve.ev env).bind fun y => (ie.ev env).bind fun z => (inOf z).bind fun k => (ixN xs.length k).bind fun j => some (.nx (env.set i (.own (.lst (xs.set j y))))), two ve.nd ie.nd, fun {W n env fl O} kn h q σ stk vs H De w f => by
  obtain ⟨x, h1, h⟩ := bind_inv h
  obtain ⟨xs, h2, h⟩ := bind_inv h
  obtain ⟨y, h3, h⟩ := bind_inv h
  obtain ⟨z, h4, h⟩ := bind_inv h
  obtain ⟨k, h5, h⟩ := bind_inv h
  obtain ⟨j, h6, h⟩ := bind_inv h
  cases h
  cases lstOf_inv h2
  cases inOf_inv h5
  refine ve.ok (Φ := fun d m => d = y ∧ m = n) kn.1 h3 ⟨rfl, rfl⟩ σ stk vs H _ w fun vy y' n1 H1 e1 w1 => ?_
  obtain ⟨rfl, rfl⟩ := e1
  obtain ⟨p, us, a1, a2, a3⟩ := w1.pop.ownAt (ownAt_inv h1)
  refine ⟨.ref p, a1, ?_⟩
  refine ie.ok (Φ := fun d m => d = .int k ∧ m = n1) kn.2 h4 ⟨rfl, rfl⟩ σ _ _ H1 _ w1 fun vz z' n2 H2 e2 w2 => ?_
  obtain ⟨rfl, rfl⟩ := e2
  have t := w2.top
  cases t
  obtain ⟨p', us', b1, b2, b3⟩ := w2.pop.pop.ownAt (ownAt_inv h1)
  rw [a1] at b1
  cases b1
  refine ⟨p, us', k, j, rfl, rfl, b2, by rw [b3]; exact h6, ?_⟩
  exact f.nx _ _ _ n2 q (w2.pop.ownPutO (ownAt_inv h1) a1 b2 fun U _ hh r => by
    cases hh with
    | lst hh => exact .lst (hh.set r j))⟩
theorem te_fDNew (K : PySem.W.Frag) : fDNew.te K = tDNewK := rfl
theorem te_fDict (a : Exs) (K : PySem.W.Frag) : (fDict a).te K = tCB (mDict.r K) (a.ta K) := rfl
theorem te_qfDict (a : QA) (K : PySem.W.Frag) : (qfDict a).te K = tCB (mDict.r K) (a.ta K) := rfl
theorem te_qfLst (a : QA) (K : PySem.W.Frag) : (qfLst a).te K = tLst (a.ta K) := rfl
theorem te_sDPut_ (i : Nat) (k v : Ex) (K : PySem.W.Frag) : (sDPut_ i k v).ts K = sDPut (tVar i) (k.te K) (v.te K) := rfl
theorem te_fRep (a b : Ex) (K : PySem.W.Frag) : (fRep a b).te K = tOp (mRep.r K) (a.te K) (b.te K) := rfl
theorem te_sIxPut (i : Nat) (k v : Ex) (K : PySem.W.Frag) : (sIxPut i k v).ts K = tAsg (v.te K) (gSub (tVar i) (k.te K) rSetL) := rfl
end FR
namespace FR
open PySem PySem.Spec PyProof.Rows L2
variable [TheW]
/-! ## calls by names alone -/
def pickL {α : Type} : List Nat → List α → List α
  | [], _ => []
  | i :: is, xs => match xs[i]? with
    | some x => x :: pickL is xs
    | none => pickL is xs
def kwF (ix : List Nat) (k : Nat) (f : List D → Option D) : List D → Option D := fun ds => if ds.length == k then f (pickL ix ds) else none
def KwIn (K : PySem.W.Frag) (mg : Str → Option Value) (x : Str) (ks ps : List Str) (ix : List Nat) : Prop :=
  ∃ a fd, mg x = some (.ref a) ∧ FdAt K a fd ∧ ∀ ws : List Value, ws.length = ks.length → bindArgs fd ⟨[], ks.zip ws⟩ = pure (ps.zip (pickL ix ws))
theorem vals_at : ∀ {vs : List V} {us : List Value}, Vals vs us → ∀ i : Nat, (vs[i]? = none ∧ us[i]? = none) ∨ ∃ v u, vs[i]? = some v ∧ us[i]? = some u ∧ RelV v u
  | _, _, .nil, _ => .inl ⟨rfl, rfl⟩
  | _, _, .cons a b, 0 => .inr ⟨_, _, rfl, rfl, a⟩
  | _, _, .cons a b, i + 1 => vals_at b i
theorem vals_pick {vs : List V} {us : List Value} (h : Vals vs us) : ∀ ix : List Nat, Vals (pickL ix vs) (pickL ix us)
  | [] => .nil
  | i :: is => by
    unfold pickL
    rcases vals_at h i with ⟨e1, e2⟩ | ⟨v, u, e1, e2, r⟩
    · rw [e1, e2]
      exact vals_pick h is
    · rw [e1, e2]
      exact .cons r (vals_pick h is)
theorem rpL_at {K : PySem.W.Frag} {U : Hp} : ∀ {vs : List V} {ds : List D}, RpL K U vs ds → ∀ i : Nat, (vs[i]? = none ∧ ds[i]? = none) ∨ ∃ v d, vs[i]? = some v ∧ ds[i]? = some d ∧ Rp K U v d
  | _, _, .nil, _ => .inl ⟨rfl, rfl⟩
  | _, _, .cons a b, 0 => .inr ⟨_, _, rfl, rfl, a⟩
  | _, _, .cons a b, i + 1 => rpL_at b i
theorem rpL_pick {K : PySem.W.Frag} {U : Hp} {vs : List V} {ds : List D} (h : RpL K U vs ds) : ∀ ix : List Nat, RpL K U (pickL ix vs) (pickL ix ds)
  | [] => .nil
  | i :: is => by
    unfold pickL
    rcases rpL_at h i with ⟨e1, e2⟩ | ⟨v, u, e1, e2, r⟩
    · rw [e1, e2]
      exact rpL_pick h is
    · rw [e1, e2]
      exact .cons r (rpL_pick h is)
section
variable {X : Cx} {k : Nat} {ks ps : List Str} {x : Str} {p pos : Pos} {kws : List Keyword} {tk : TA} {ix : List Nat} {f : List D → Option D} {K : PySem.W.Frag}
theorem pe_kw (h : Has X.prog X.w X.K X.mg X.base k x ps (spD K (CF f))) (hi : KwIn X.K X.mg x ks ps ix) (gu : X.A.guards = some []) (hr : Room k X.A) (hg : Gl X x) (hkw : PK X kws tk)
    (hall : (backToKw pos (keywordEach kws X.env)).all (·.1.isSome) = true := by rfl) (hks : (backToKw pos (keywordEach kws X.env)).filterMap (·.1) = ks := by rfl) (hdb : (x == ("__debug__" : Str)) = false := by decide)
    (hpl : ((backTo pos (starEach [] X.env)).any (·.1) || (backToKw pos (keywordEach kws X.env)).any (·.1.isNone)) = false := by rfl) :
    PE X (.Call (.Name x p) [] kws pos) (tCall (spD K (CF (kwF ix ks.length f))) [] E0 tk) := by
  obtain ⟨a, fd, F, hm, hk, _, oc, od, osl, lk⟩ := h
  obtain ⟨a', fd', hm', ⟨oc', od', osl', lk'⟩, hb⟩ := hi
  rw [hm] at hm'
  cases hm'
  rw [lk] at lk'
  cases lk'
  refine ⟨fun pins s σ H Q I h => ?_⟩
  refine wpAny_Call_Name_kw (ld_glob I hg hm ?_ hdb)
  refine PySem.W.callWith_KW0 (h₀ := X.base) I.ok.mod.kin hk hall ?_ hpl
  refine thn (hkw.run pos pins s σ H _ I h) fun ws s2 ⟨zs, H2, I2, rz, q2⟩ => ⟨I2.kIn, ?_⟩
  rw [hks]
  obtain ⟨M, ds, Φ, m1, m2, ⟨d, m3, m4⟩, m5⟩ := q2
  rw [List.append_nil] at m2
  unfold kwF at m3
  split at m3
  · rename_i hl
    have l1 : ws.length = ks.length := by
      rw [← rz.length, m2.len]
      exact beq_iff_eq.mp hl
    refine wpAny_call (codeAny_mono (F.run X.A X.stack s2 H2 ⟨[], ks.zip ws⟩ (pickL ix ws) (pickL ix zs) Q E0 gu hr I2.env0 (.of_eq (hb ws l1)) (vals_pick rz ix) ⟨M, _, Φ, m1, rpL_pick m2 ix, ⟨d, m3, m4⟩, m5⟩) fun rr s3 hq => ?_)
    cases rr with
    | error e => exact hq.elim
    | ok fl =>
      cases fl with
      | ret u => exact I2.after hq
      | next => exact hq.elim
      | brk => exact hq.elim
      | cont => exact hq.elim
  · cases m3
end
section
variable {K : PySem.W.Frag} {mg : Str → Option Value} {h : Heap} {x : Str} {st : Stmt} {ks ps : List Str} {ix : List Nat} {f : Addr} {oc kV dc pm cd ct : Value} {od an : Option Addr} {sl : Array (Option Value)}
theorem kw_in (X : K.In h) (G : h.Ns mainGlobals mg) (a : PySem.W.nsIn K mainGlobals x = some (some (.ref f))) (l : K.lookup f = some ⟨oc, od, .func (PySem.W.fnOf x x (defArgs st) (defBody st) (defScope st) .none kV dc pm an cd ct), sl⟩)
    (b : ∀ (kV doc pm : Value) (an : Option Addr) (cdv ct : Value) (ws : List Value), ws.length = ks.length → bindArgs (PySem.W.fnOf x x (defArgs st) (defBody st) (defScope st) .none kV doc pm an cdv ct) ⟨[], ks.zip ws⟩ = pure (ps.zip (pickL ix ws))) : KwIn K mg x ks ps ix :=
  ⟨f, _, PySem.W.mg_of X G a, ⟨_, _, _, l⟩, b kV dc pm an cd ct⟩
end
end FR
namespace FR
open PySem PySem.Spec PyProof.Rows L2
variable [TheW]
theorem ev_fDNew (env : List E) : (fDNew).ev env = (some (.dct [])) := rfl
theorem ev_fDict (a : Exs) (env : List E) : (fDict a).ev env = ((a.ev env).bind fun ds => match ds with
    | [.lst xs] => (pairsOf_ xs).bind fun kvs => some (.dct (mergeKD [] kvs))
    | _ => none) := rfl
theorem wp_qfDict (a : QA) (n : Nat) (env : List E) (Φ : D → Nat → Prop) : (qfDict a).wp n env Φ = (a.wp n env fun ds n1 => ∃ xs kvs, ds = [.lst xs] ∧ pairsOf_ xs = some kvs ∧ Φ (.dct (mergeKD [] kvs)) n1) := rfl
theorem wp_qfLst (a : QA) (n : Nat) (env : List E) (Φ : D → Nat → Prop) : (qfLst a).wp n env Φ = (a.wp n env fun xs n1 => szOk xs.length = true ∧ Φ (.lst xs) n1) := rfl
theorem ev_sDPut_ (i : Nat) (ke ve : Ex) (env : List E) : (sDPut_ i ke ve).ev env = ((ownAt env[i]?).bind fun x => (dctOf x).bind fun kvs => (ve.ev env).bind fun y => (ke.ev env).bind fun z => (keyOf z).bind fun key => when (Nat.blt kvs.length 16777216) (some (.nx (env.set i (.own (.dct (putKD kvs key y))))))) := rfl
theorem ev_fRep (a b : Ex) (env : List E) : (fRep a b).ev env = ((a.ev env).bind fun x => (b.ev env).bind fun y => mRep.f x y) := rfl
theorem ev_sIxPut (i : Nat) (ie ve : Ex) (env : List E) : (sIxPut i ie ve).ev env = ((ownAt env[i]?).bind fun x => (lstOf x).bind fun xs => (ve.ev env).bind fun y => (ie.ev env).bind fun z => (inOf z).bind fun k => (ixN xs.length k).bind fun j => some (.nx (env.set i (.own (.lst (xs.set j y)))))) := rfl
end FR
namespace FR
open PySem PySem.Spec PyProof.Rows L2 RZ
variable [TheW]
/-! ## zip of a tuple and a list -/
def ItzM (K : PySem.W.Frag) (a b : Addr) : It :=
  ⟨fun i H => ∃ (xs ys : List V) (x y : V), SqT K H a xs ∧ SqL K H b ys ∧ xs[i]? = some x ∧ ys[i]? = some y,
    fun i H u H' => ∃ T x y, u = .ref T ∧ H T = none ∧ H' = upd H T (.tup [x, y]) ∧ (∀ xs, SqT K H a xs → xs[i]? = some x) ∧ ∀ ys, SqL K H b ys → ys[i]? = some y,
    fun i H => ∃ xs ys : List V, SqT K H a xs ∧ SqL K H b ys ∧ i ≤ xs.length ∧ i ≤ ys.length ∧ (xs.length = i ∨ ys.length = i)⟩
theorem turn_zipM {P : Program} {w : World} {K : PySem.W.Frag} {elts : List Expr} {kk : Nat} {tpos : Pos} {a b z TI TO i1 i2 : Addr} (D : ZipSep2 z TI TO i1 i2 [i1, a] [i2, b]) (n1 : a ≠ i1) (n2 : b ≠ i2) :
    Turn P w K (.Tuple elts kk tpos) (ItzM K a b) [z, TI, TO, i1, i2] z (fun i h => IsZip h z TI TO .none ∧ IsTupOf2 h TI (.ref i1) (.ref i2) ∧ (∃ x y, IsTupOf2 h TO x y) ∧ h.IsTupleIter i1 a i ∧ h.IsListIter i2 b i) where
  mem := by simp
  obj := fun i h st q hq => by
    obtain ⟨hz, hTI, ⟨x, y, hTO⟩, ⟨o1, e1, _, d1⟩, ⟨o2, e2, _, d2⟩⟩ := st
    have e' : q = z ∨ q = TI ∨ q = TO ∨ q = i1 ∨ q = i2 := by simpa using hq
    rcases e' with r | r | r | r | r <;> rw [r]
    · exact ⟨_, hz, fun v q => nomatch q⟩
    · exact ⟨_, hTI, fun v q => nomatch q⟩
    · exact ⟨_, hTO, fun v q => nomatch q⟩
    · exact ⟨o1, e1, fun v q => by rw [d1] at q; cases q⟩
    · exact ⟨o2, e2, fun v q => by rw [d2] at q; cases q⟩
  keep := fun i h h' st k => by
    obtain ⟨hz, hTI, ⟨x, y, hTO⟩, h1, h2⟩ := st
    exact ⟨k z (by simp) _ hz, k TI (by simp) _ hTI, ⟨x, y, k TO (by simp) _ hTO⟩, h1.at fun o q => k i1 (by simp) o q, h2.at fun o q => k i2 (by simp) o q⟩
  item := by
    intro X hP hw hK hc i pins s σ H E I hf st hg
    subst hP hw hK
    obtain ⟨hz, hTI, ⟨x0, y0, hTO⟩, h1, h2⟩ := st
    obtain ⟨xs, ys, x, y, hqx, hqy, hx, hy⟩ := hg
    obtain ⟨its, rv, p, _⟩ := I.tuple hqx
    obtain ⟨its2, rv2, p2, _⟩ := I.list hqy
    obtain ⟨u, hu, ru⟩ := rv.get hx
    obtain ⟨u2, hu2, ru2⟩ := rv2.get hy
    have hzl : z < s.heap.objs.size := Heap.lt_size hz
    have lt1 : i < its.toArray.size := by have := (List.getElem?_eq_some_iff.mp hu).1; simpa using this
    have lt2 : i < its2.toArray.size := by have := (List.getElem?_eq_some_iff.mp hu2).1; simpa using this
    have hd : X.A.in1.handled = none := I.ok.hd hc
    refine wpAny_pyNext_zipD2_item D (Draws.tuple hd i1 a n1 its.toArray) (Draws.list hd i2 b n2 its2.toArray) hz hTI hTO ⟨h1, p⟩ ⟨h2, p2.isList⟩ lt1 lt2 fun v1 v2 h' tk y1 y2 z' TO' s1 s2 hT hsz hk => ⟨_, rfl, wpAny_letOwnedTupleGo_zip (s := { s with heap := h', toks := tk }) z' fun h'' z'' sb => ?_⟩
    have eu : v1 = u := by
      have : its.toArray[i]? = some u := by simpa using hu
      rw [this] at y1
      exact (Option.some.inj y1).symm
    have eu2 : v2 = u2 := by
      have : its2.toArray[i]? = some u2 := by simpa using hu2
      rw [this] at y2
      exact (Option.some.inj y2).symm
    subst eu eu2
    have hT2 : h''.get? s.heap.objs.size = some { cls := .type "tuple", data := .seq #[v1, v2] } := (sb.2 _ (Nat.ne_of_gt hzl)).trans hT
    have new : ObjOk X.prog X.w (upd H s.heap.objs.size (.tup [x, y])) h'' s.heap.objs.size (.tup [x, y]) := ⟨by show 2 ≤ sizeLine; decide, [v1, v2], .cons ru (.cons ru2 .nil), ⟨_, hT2, rfl, _, rfl⟩⟩
    have I1 : L2.Inv X pins σ (upd H s.heap.objs.size (.tup [x, y])) { s with heap := h'', toks := tk } :=
      I.turnedNew (t' := tk) (ch := [z, TI, TO, i1, i2]) (fun c o hb q => (sb.2 c (fun q' => hb (by simp [q']))).trans (hk c o (fun q' => hb (by simp [q'])) (fun q' => hb (by simp [q'])) (fun q' => hb (by simp [q'])) (fun q' => hb (by simp [q'])) q)) hf (Nat.le_refl _) new
    have i1z : i1 ≠ z := fun e => D.zf1 (by rw [← e]; simp)
    have i2z : i2 ≠ z := fun e => D.zf2 (by rw [← e]; simp)
    refine ⟨.ref s.heap.objs.size, _, I1, rfl, ⟨_, x, y, rfl, I.hok.fresh (Nat.le_refl _), rfl, fun l hl => by rw [I.tuple_inj hl hqx]; exact hx, fun l hl => by rw [I.list_inj hl hqy]; exact hy⟩, ⟨z'', ?_, ⟨v1, v2, ?_⟩, ?_, ?_⟩, fun q hq => ?_⟩
    · exact (sb.2 _ D.TIz).trans (hk _ _ D.TIz D.TITO D.TIi1 D.TIi2 hTI)
    · exact (sb.2 _ D.TOz).trans TO'
    · exact s1.1.at fun o q => (sb.2 _ i1z).trans q
    · exact s2.1.at fun o q => (sb.2 _ i2z).trans q
    · have hlt : q < s.heap.objs.size := by
        have e' : q = z ∨ q = TI ∨ q = TO ∨ q = i1 ∨ q = i2 := by simpa using hq
        rcases e' with r | r | r | r | r <;> rw [r]
        · exact hzl
        · exact Heap.lt_size hTI
        · exact Heap.lt_size hTO
        · obtain ⟨_, e1, _⟩ := h1; exact Heap.lt_size e1
        · obtain ⟨_, e2, _⟩ := h2; exact Heap.lt_size e2
      rw [upd_ne (Nat.ne_of_lt hlt)]
      exact (hf q hq).1
  done := by
    intro X hP hw hK hc i pins s σ H E I hf st hg
    subst hP hw hK
    obtain ⟨hz, hTI, ⟨x0, y0, hTO⟩, h1, h2⟩ := st
    obtain ⟨xs, ys, hqx, hqy, le1, le2, hend⟩ := hg
    obtain ⟨its, rv, p, _⟩ := I.tuple hqx
    obtain ⟨its2, rv2, p2, _⟩ := I.list hqy
    have e1 := rv.length; have e2 := rv2.length
    have hd : X.A.in1.handled = none := I.ok.hd hc
    exact wpAny_pyNext_zipD2_end D (Draws.tuple hd i1 a n1 its.toArray) (Draws.list hd i2 b n2 its2.toArray) hz hTI hTO ⟨h1, p⟩ ⟨h2, p2.isList⟩ (by simp; omega) (by simp; omega) (by simp; omega) fun h' tk hk => ⟨rfl, I.turnedL (t' := tk) (ch := [z, TI, TO, i1, i2]) (fun c o hb q => hk c o (fun q' => hb (by simp [q'])) (fun q' => hb (by simp [q'])) (fun q' => hb (by simp [q'])) (fun q' => hb (by simp [q'])) q) hf⟩
  self := fun A i s Q E st h => wpAny_pyIter_zip st.1 h
def iZipM (K : PySem.W.Frag) (ta : TA) : TI := fun σ H R => ta σ H fun vs H1 => ∃ a b xs ys, vs = [.ref a, .ref b] ∧ SqT K H1 a xs ∧ SqL K H1 b ys ∧ R (ItzM K a b) H1
theorem not_two {x a b : Addr} (h1 : x ≠ a) (h2 : x ≠ b) : x ∉ [a, b] := by
  intro h
  rcases List.mem_cons.mp h with h | h
  · exact h1 h
  · rcases List.mem_cons.mp h with h | h
    · exact h2 h
    · cases h
theorem sep_at (n a b : Nat) (la : a < n) (lb : b < n) : ZipSep2 (n + 4) (n + 2) (n + 3) n (n + 1) [n, a] [n + 1, b] := by
  constructor <;> first | exact Nat.ne_of_lt (by omega) | exact Nat.ne_of_gt (by omega) | exact List.mem_cons_self | (refine not_two ?_ ?_ <;> first | exact Nat.ne_of_lt (by omega) | exact Nat.ne_of_gt (by omega))
theorem r_zipM {X : Cx} {K : PySem.W.Frag} {e e2 : Expr} {ta : TA} {p pos tpos : Pos} {elts : List Expr} {kk : Nat} (hK : X.K = K) (hg : Gl X "zip") (hm : X.mg "zip" = none) (ha : PA X [e, e2] ta)
    (hs : starEach [e, e2] X.env = (false, eval e X.env) :: starEach [e2] X.env := by rfl) (hpl : (backTo pos (starEach [e2] X.env)).any (·.1) = false := by rfl) : PI X (.Tuple elts kk tpos) (.Call (.Name "zip" p) [e, e2] [] pos) (iZipM K ta) := by
  subst hK
  refine ⟨fun pins s σ H R I h => Call_ (ld_blt I hg hm PyProof.Rows.boot_zip (PyProof.Rows.callWith_type1 (thn (ha.run pos pins s σ H _ I h) fun us s1 zz => ?_) hs hpl))⟩
  obtain ⟨vs, H1, I1, r1, a, b, xs, ys, ex, hqx, hqy, q⟩ := zz
  subst ex
  cases r1 with
  | cons r rr =>
    cases rr with
    | cons r' rr =>
      cases rr; cases r; cases r'
      obtain ⟨its, rv, p1, _⟩ := I1.tuple hqx
      obtain ⟨its2, rv2, p2, _⟩ := I1.list hqy
      have la : a < s1.heap.objs.size := by obtain ⟨o1, ho1, _⟩ := id p1; exact Heap.lt_size ho1
      have lb : b < s1.heap.objs.size := p2.lt
      refine zip_begins2 (begins_tuple a its.toArray) (begins_list b its2.toArray) p1 p2.isList fun h' hz hTI hTO h1 h2 hsz hk => wpAny_pyIter_zip hz ?_
      have I2 : L2.Inv X pins σ H1 { s1 with heap := h' } := I1.kept (t' := s1.toks) hk
      refine ⟨s1.heap.objs.size + 4, [s1.heap.objs.size + 4, s1.heap.objs.size + 2, s1.heap.objs.size + 3, s1.heap.objs.size, s1.heap.objs.size + 1], _, _, H1, rfl, I2, turn_zipM (sep_at _ a b la lb) (Nat.ne_of_lt la) (Nat.ne_of_lt (Nat.lt_succ_of_lt lb)), ⟨hz, hTI, ⟨_, _, hTO⟩, ⟨_, h1, rfl, rfl⟩, ⟨_, h2, rfl, rfl⟩⟩, fun q hq => ?_, q⟩
      have hle : s1.heap.objs.size ≤ q := by
        simp only [List.mem_cons, List.not_mem_nil, or_false] at hq
        rcases hq with r | r | r | r | r <;> rw [r] <;> first | exact Nat.le_refl _ | exact Nat.le_add_right _ _
      exact I1.fpOk hle (I1.hok.fresh hle)
theorem itD_zipM {K : PySem.W.Frag} {a1 b1 : Addr} {xs ys : List D} : ItD K (ItzM K a1 b1) (zipD xs ys) [.tup xs, .lst ys] [.ref a1, .ref b1] := ⟨by
  have hl : (zipD xs ys).length = min xs.length ys.length := by simp [zipD]
  refine ⟨fun H => ∃ ws zs, SqT K H a1 ws ∧ ws.length = xs.length ∧ SqL K H b1 zs ∧ zs.length = ys.length, fun i H v H' => ∃ T x y, v = .ref T ∧ H T = Option.none ∧ H' = upd H T (.tup [x, y]) ∧ (∀ xs, SqT K H a1 xs → xs[i]? = some x) ∧ ∀ ys, SqL K H b1 ys → ys[i]? = some y, ⟨?_, ?_, ?_⟩, ?_, ?_⟩
  · rintro i H hi ⟨ws, zs, h1, h2, h3, h4⟩
    exact ⟨ws, zs, ws[i]'(by omega), zs[i]'(by omega), h1, h3, by simp [show i < ws.length by omega], by simp [show i < zs.length by omega]⟩
  · rintro H ⟨ws, zs, h1, h2, h3, h4⟩
    exact ⟨ws, zs, h1, h3, by omega, by omega, by omega⟩
  · rintro i H x H' hi ⟨ws, zs, h1, h2, h3, h4⟩ y
    exact y
  · intro H rl
    cases rl with
    | cons r r2 =>
      cases r2 with
      | cons r2 _ =>
        cases r with
        | tup a b =>
          cases r2 with
          | lst c d => exact ⟨_, _, a.sq, b.len, .inl (.inl c), d.len⟩
  · rintro i H v H' hi rl ⟨T, x, y, rfl, hT, rfl, y1, y2⟩
    have hx : i < xs.length := by omega
    have hy : i < ys.length := by omega
    refine ⟨.tpk [xs[i], ys[i]], by unfold zipD; rw [List.getElem?_map, List.getElem?_eq_getElem (by simp; omega), List.getElem_zip]; rfl, same_new hT, fun M hM rl2 => ?_⟩
    cases rl2 with
    | cons r r2 =>
      cases r2 with
      | cons r2 _ =>
        cases r with
        | tup a b =>
          cases r2 with
          | lst c d =>
            obtain ⟨u, e1, e2⟩ := b.get (i := i) (x := xs[i]) (by simp [hx])
            obtain ⟨u2, f1, f2⟩ := d.get (i := i) (x := ys[i]) (by simp [hy])
            have e3 := y1 _ (same_sqT (era_sub _ _) a)
            have f3 := y2 _ (.inl (.inl (era_sub _ _ _ _ c)))
            rw [e1] at e3
            rw [f1] at f3
            cases e3
            cases f3
            have nT : T ∉ M := fun z => hM T z hT
            refine .tpk (.inl (era_of upd_same nT)) (.cons (e2.mono ?_) (.cons (f2.mono ?_) .nil))
            all_goals exact era_mono _ (same_new hT)⟩
theorem wi_zipM {W : Wo} {n : Nat} {env : List E} {ta : TA} {Φ : List D → Nat → Prop} (q : WpA W ta n env fun ds n1 => ∃ xs ys, ds = [.tup xs, .lst ys] ∧ Φ (zipD xs ys) n1) : WpI W (iZipM W.K ta) n env Φ := fun σ stk vs H R w k =>
  q σ stk vs H _ w fun us ds n1 H1 q1 l w1 => by
    obtain ⟨xs, ys, rfl, q1⟩ := q1
    have t := w1.sees l
    cases t with
    | cons a b =>
      cases b with
      | cons b c =>
        cases c
        cases a with
        | @tup a1 us1 _ a2 a3 =>
          cases b with
          | @lst b1 us2 _ b2 b3 =>
            exact ⟨a1, b1, us1, us2, rfl, a2.sq, .inl (.inl b2), k _ (zipD xs ys) n1 H1 [.tup xs, .lst ys] [.ref a1, .ref b1] q1 rfl w1 itD_zipM.up⟩
def jZipM (a : Exs) : Itx := ⟨fun K => iZipM K (a.ta K), fun env => (a.ev env).bind fun ds => match ds with
    | [.tup xs, .lst ys] => some (zipD xs ys)
    | _ => none, a.nd, fun {W n env ds Φ} k h q => by
  obtain ⟨ds, h1, h⟩ := bind_inv h
  split at h
  · cases h; exact wi_zipM (a.ok k h1 ⟨_, _, rfl, q⟩)
  · cases h⟩
theorem te_jZipM (a : Exs) (K : PySem.W.Frag) : (jZipM a).ti K = iZipM K (a.ta K) := rfl
theorem ev_jZipM (a : Exs) (env : List E) : (jZipM a).ev env = ((a.ev env).bind fun ds => match ds with
    | [.tup xs, .lst ys] => some (zipD xs ys)
    | _ => none) := rfl
end FR
namespace FR
open PySem PySem.Spec PyProof.Rows L2
variable [TheW]
/-! ## x or y, x and y, not x by truth -/
def truD : D → Option Bool
  | .non => some false
  | .bl b => some b
  | .int i => some (i != 0)
  | .lst xs => some (!xs.isEmpty)
  | .tup xs => some (!xs.isEmpty)
  | _ => none
theorem rpl_empty {K : PySem.W.Frag} {U : Hp} {us : List V} {xs : List D} (r : RpL K U us xs) : (!xs.isEmpty) = !us.isEmpty := by
  cases r <;> rfl
theorem tru_of {K : PySem.W.Frag} {H : Hp} {v : V} {d : D} {k : Bool} (r : Rp K H v d) (t : truD d = some k) : TruV K v H k := by
  cases r with
  | non => cases t; rfl
  | bl b => cases t; rfl
  | int i => cases t; rfl
  | lst a b => cases t; exact .inl ⟨_, .inl (.inl a), rpl_empty b⟩
  | tup a b => cases t; exact .inr (.inl ⟨_, a.sq, rpl_empty b⟩)
  | _ => cases t
theorem wp_orT {W : Wo} {ta tb : TE} {n : Nat} {env : List E} {Φ : D → Nat → Prop} (q : Wp W ta n env fun x n1 => ∃ k, truD x = some k ∧ if k = true then Φ x n1 else Wp W tb n1 env Φ) : Wp W (tOrT W.K ta tb) n env Φ := fun σ stk vs H Q w k =>
  q σ stk vs H _ w fun v d n1 H1 q1 w1 => by
    obtain ⟨c, t, q1⟩ := q1
    refine ⟨c, tru_of w1.top t, ?_⟩
    cases c with
    | true => exact k _ _ n1 H1 q1 w1
    | false => exact q1 σ stk vs H1 Q w1.pop k
theorem wp_andT {W : Wo} {ta tb : TE} {n : Nat} {env : List E} {Φ : D → Nat → Prop} (q : Wp W ta n env fun x n1 => ∃ k, truD x = some k ∧ if k = true then Wp W tb n1 env Φ else Φ x n1) : Wp W (tAndT W.K ta tb) n env Φ := fun σ stk vs H Q w k =>
  q σ stk vs H _ w fun v d n1 H1 q1 w1 => by
    obtain ⟨c, t, q1⟩ := q1
    refine ⟨c, tru_of w1.top t, ?_⟩
    cases c with
    | true => exact q1 σ stk vs H1 Q w1.pop k
    | false => exact k _ _ n1 H1 q1 w1
def xOrT (a b : Ex) : Ex := ⟨fun K => tOrT K (a.te K) (b.te K), fun env => (a.ev env).bind fun x => (truD x).bind fun c => match c with
    | true => some x
    | false => b.ev env, two a.nd b.nd, fun k h q => by
  obtain ⟨x, h1, h⟩ := bind_inv h
  obtain ⟨c, h2, h⟩ := bind_inv h
  refine wp_orT (a.ok k.1 h1 ⟨c, h2, ?_⟩)
  cases c with
  | true => cases h; exact q
  | false => exact b.ok k.2 h q⟩
def xAndT (a b : Ex) : Ex := ⟨fun K => tAndT K (a.te K) (b.te K), fun env => (a.ev env).bind fun x => (truD x).bind fun c => match c with
    | true => b.ev env
    | false => some x, two a.nd b.nd, fun k h q => by
  obtain ⟨x, h1, h⟩ := bind_inv h
  obtain ⟨c, h2, h⟩ := bind_inv h
  refine wp_andT (a.ok k.1 h1 ⟨c, h2, ?_⟩)
  cases c with
  | true => exact b.ok k.2 h q
  | false => cases h; exact q⟩
section
variable {X : Cx} {a b : Expr} {ta tb : TE} {rest : List Expr} {pos : Pos} {K : PySem.W.Frag}
theorem r_orT (h : X.K = K) (ha : PE X a ta) (hb : PE X (.BoolOp .Or (b :: rest) pos) tb) : PE X (.BoolOp .Or (a :: b :: rest) pos) (tOrT K ta tb) := h ▸ pe_orT ha hb
theorem r_andT (h : X.K = K) (ha : PE X a ta) (hb : PE X (.BoolOp .And (b :: rest) pos) tb) : PE X (.BoolOp .And (a :: b :: rest) pos) (tAndT K ta tb) := h ▸ pe_andT ha hb
end
section
variable {X : Cx} {K : PySem.W.Frag}
theorem k_ext (h : X.K = K) {xs e : Expr} {to te : TE} {apos cpos : Pos} (ho : PE X xs to) (he : PE X e te)
    (hp : PE X (.Call (.Attribute xs "extend" apos) [e] [] cpos) (tBM X.K "list" rExtend to (tCons te tNil))) : PE X (.Call (.Attribute xs "extend" apos) [e] [] cpos) (tBM K "list" rExtend to (tCons te tNil)) := h ▸ hp
end
theorem te_xOrT (a b : Ex) (K : PySem.W.Frag) : (xOrT a b).te K = tOrT K (a.te K) (b.te K) := rfl
theorem te_xAndT (a b : Ex) (K : PySem.W.Frag) : (xAndT a b).te K = tAndT K (a.te K) (b.te K) := rfl
theorem ev_xOrT (a b : Ex) (env : List E) : (xOrT a b).ev env = ((a.ev env).bind fun x => (truD x).bind fun c => match c with
    | true => some x
    | false => b.ev env) := rfl
theorem ev_xAndT (a b : Ex) (env : List E) : (xAndT a b).ev env = ((a.ev env).bind fun x => (truD x).bind fun c => match c with
    | true => b.ev env
    | false => some x) := rfl
theorem tru_lst (xs : List D) : truD (.lst xs) = some (!xs.isEmpty) := rfl
theorem tru_tup (xs : List D) : truD (.tup xs) = some (!xs.isEmpty) := rfl
theorem tru_non : truD .non = some false := rfl
theorem tru_bl (b : Bool) : truD (.bl b) = some b := rfl
end FR
namespace FR
open PySem PySem.Spec PyProof.Rows L2
variable [TheW]
theorem ev_jZip3 (a : Exs) (env : List E) : (jZip3 a).ev env = ((a.ev env).bind fun ds => match ds with
    | [.tup xs, .tup ys, .tup zs] => some (zip3D xs ys zs)
    | _ => none) := rfl
theorem ev_sParL (i j : Nat) (e : Ex) (env : List E) : (sParL i j e).ev env = (when (!Nat.beq i j && freeAt (unown env i) i) ((e.ev (unown env i)).bind fun y => some (.nx (((unown env i).set j (.d y)).set i (.own (.lst [])))))) := rfl
theorem ev_sPar3 (i j l : Nat) (a : Exs) (env : List E) : (sPar3 i j l a).ev env = ((a.ev env).bind fun ds => match ds with
    | [x, y, z] => some (.nx (((env.set i (.d x)).set j (.d y)).set l (.d z)))
    | _ => none) := rfl
theorem wp_qE (e : Ex) (n : Nat) (env : List E) (Φ : D → Nat → Prop) : (qE e).wp n env Φ = (∃ d, e.ev env = some d ∧ Φ d n) := rfl
theorem wp_qA (e : Exs) (n : Nat) (env : List E) (Φ : List D → Nat → Prop) : (qA e).wp n env Φ = (∃ d, e.ev env = some d ∧ Φ d n) := rfl
theorem wp_qT (e : Ts) (n : Nat) (env : List E) (Φ : Bool → Nat → Prop) : (qT e).wp n env Φ = (∃ d, e.ev env = some d ∧ Φ d n) := rfl
theorem wp_qI (e : Itx) (n : Nat) (env : List E) (Φ : List D → Nat → Prop) : (qI e).wp n env Φ = (∃ d, e.ev env = some d ∧ Φ d n) := rfl
theorem wp_qF (e : Fx) (n : Nat) (env : List E) (Φ : D → Nat → Prop) : (qF e).wp n env Φ = (∃ d, e.ev env = some d ∧ Φ d n) := rfl
theorem wp_qP (e : Po) (n : Nat) (env : List E) (Φ : Option Int → Nat → Prop) : (qP e).wp n env Φ = (∃ d, e.ev env = some d ∧ Φ d n) := rfl
theorem wp_qS (e : Stx) (n : Nat) (env : List E) (O : Out) : (qS e).wp n env O = (∃ fl, e.ev env = some fl ∧ O.at n fl) := rfl
theorem wp_qCons (a : QE) (b : QA) (n : Nat) (env : List E) (Φ : List D → Nat → Prop) : (qCons a b).wp n env Φ = (a.wp n env fun x n1 => b.wp n1 env fun xs n2 => Φ (x :: xs) n2) := rfl
theorem wp_qTup (a : QA) (n : Nat) (env : List E) (Φ : D → Nat → Prop) : (qTup a).wp n env Φ = (a.wp n env fun xs n1 => szOk xs.length = true ∧ Φ (.tup xs) n1) := rfl
theorem wp_qLst (a : QA) (n : Nat) (env : List E) (Φ : D → Nat → Prop) : (qLst a).wp n env Φ = (a.wp n env fun xs n1 => szOk xs.length = true ∧ Φ (.lst xs) n1) := rfl
theorem wp_qOp2 (s : Sem2) (a b : QE) (n : Nat) (env : List E) (Φ : D → Nat → Prop) : (qOp2 s a b).wp n env Φ = (a.wp n env fun x n1 => b.wp n1 env fun y n2 => ∃ d, s.f x y = some d ∧ Φ d n2) := rfl
theorem wp_qUn (s : Sem1) (a : QE) (n : Nat) (env : List E) (Φ : D → Nat → Prop) : (qUn s a).wp n env Φ = (a.wp n env fun x n1 => ∃ d, s.f x = some d ∧ Φ d n1) := rfl
theorem wp_qFn (s : SemN) (a : QA) (n : Nat) (env : List E) (Φ : D → Nat → Prop) : (qFn s a).wp n env Φ = (a.wp n env fun xs n1 => ∃ d, s.f xs = some d ∧ Φ d n1) := rfl
theorem wp_qCall (f : List D → Option D) (a : QA) (n : Nat) (env : List E) (Φ : D → Nat → Prop) : (qCall f a).wp n env Φ = (a.wp n env fun xs n1 => ∃ d, f xs = some d ∧ Φ d n1) := rfl
theorem wp_qDraw (C : List D → Nat → (D → Nat → Prop) → Prop) (i : Nat) (a : QA) (n : Nat) (env : List E) (Φ : D → Nat → Prop) : (qDraw C i a).wp n env Φ = (env[i]? = some .pot ∧ a.wp n env fun xs n1 => C xs n1 Φ) := rfl
theorem wp_qB (a : QE) (n : Nat) (env : List E) (Φ : Bool → Nat → Prop) : (qB a).wp n env Φ = (a.wp n env fun x n1 => ∃ b, blOf x = some b ∧ Φ b n1) := rfl
theorem wp_qTest (a : QE) (n : Nat) (env : List E) (Φ : Bool → Nat → Prop) : (qTest a).wp n env Φ = (a.wp n env fun x n1 => ∃ b, blOf x = some b ∧ Φ b n1) := rfl
theorem wp_qNotT (a : QT) (n : Nat) (env : List E) (Φ : Bool → Nat → Prop) : (qNotT a).wp n env Φ = (a.wp n env fun b n1 => Φ (!b) n1) := rfl
theorem wp_qAndT (a b : QT) (n : Nat) (env : List E) (Φ : Bool → Nat → Prop) : (qAndT a b).wp n env Φ = (a.wp n env fun c n1 => match c with
    | true => b.wp n1 env Φ
    | false => Φ false n1) := rfl
theorem wp_qOrT (a b : QT) (n : Nat) (env : List E) (Φ : Bool → Nat → Prop) : (qOrT a b).wp n env Φ = (a.wp n env fun c n1 => match c with
    | true => Φ true n1
    | false => b.wp n1 env Φ) := rfl
theorem wp_qAnd (a b : QE) (n : Nat) (env : List E) (Φ : D → Nat → Prop) : (qAnd a b).wp n env Φ = (a.wp n env fun x n1 => ∃ c, blOf x = some c ∧ match c with
    | true => b.wp n1 env Φ
    | false => Φ (.bl false) n1) := rfl
theorem wp_qOr (a b : QE) (n : Nat) (env : List E) (Φ : D → Nat → Prop) : (qOr a b).wp n env Φ = (a.wp n env fun x n1 => ∃ c, blOf x = some c ∧ match c with
    | true => Φ (.bl true) n1
    | false => b.wp n1 env Φ) := rfl
theorem wp_qNot (a : QE) (n : Nat) (env : List E) (Φ : D → Nat → Prop) : (qNot a).wp n env Φ = (a.wp n env fun x n1 => ∃ c, blOf x = some c ∧ Φ (.bl (!c)) n1) := rfl
theorem wp_qIf (t : QT) (a b : QE) (n : Nat) (env : List E) (Φ : D → Nat → Prop) : (qIf t a b).wp n env Φ = (t.wp n env fun c n1 => match c with
    | true => a.wp n1 env Φ
    | false => b.wp n1 env Φ) := rfl
theorem wp_qChain (s s' : Sem2) (a b c : QE) (n : Nat) (env : List E) (Φ : D → Nat → Prop) : (qChain s s' a b c).wp n env Φ = (a.wp n env fun x n1 => b.wp n1 env fun y n2 => ∃ z, s.f x y = some z ∧ ∃ t, blOf z = some t ∧ match t with
    | true => c.wp n2 env fun e n3 => ∃ d, s'.f y e = some d ∧ Φ d n3
    | false => Φ (.bl false) n2) := rfl
theorem wp_qPart (a : QE) (n : Nat) (env : List E) (Φ : Option Int → Nat → Prop) : (qPart a).wp n env Φ = (a.wp n env fun x n1 => ∃ i, inOf x = some i ∧ Φ (some i) n1) := rfl
theorem wp_qSeqI (e : QE) (n : Nat) (env : List E) (Φ : List D → Nat → Prop) : (qSeqI e).wp n env Φ = (e.wp n env fun x n1 => ∃ ds, itemsOf x = some ds ∧ Φ ds n1) := rfl
theorem wp_qRange1 (a : QA) (n : Nat) (env : List E) (Φ : List D → Nat → Prop) : (qRange1 a).wp n env Φ = (a.wp n env fun ds n1 => ∃ j : Int, ds = [.int j] ∧ sm62 j = true ∧ Φ (rangeD 0 j.toNat) n1) := rfl
theorem wp_qRange2 (a : QA) (n : Nat) (env : List E) (Φ : List D → Nat → Prop) : (qRange2 a).wp n env Φ = (a.wp n env fun ds n1 => ∃ i j : Int, ds = [.int i, .int j] ∧ sm62 i = true ∧ sm62 j = true ∧ Φ (rangeD i (j - i).toNat) n1) := rfl
theorem wp_qLc (it : QI) (g : Tgx) (t : QT) (e : QE) (sl : List Nat) (hL : (g.L.all fun i => sl.elem i) = true) (n : Nat) (env : List E) (Φ : D → Nat → Prop) : (qLc it g t e sl hL).wp n env Φ = (it.wp n env fun ds n1 => szOk ds.length = true ∧ goLcQ g t e (wipeE (env.map hideE) sl) ds [] n1 fun ys m => Φ (.lst ys) m) := rfl
theorem wp_qfLc (it : QI) (g : Tgx) (t : QT) (e : QE) (sl : List Nat) (hL : (g.L.all fun i => sl.elem i) = true) (n : Nat) (env : List E) (Φ : D → Nat → Prop) : (qfLc it g t e sl hL).wp n env Φ = (it.wp n env fun ds n1 => szOk ds.length = true ∧ goLcQ g t e (wipeE (env.map hideE) sl) ds [] n1 fun ys m => Φ (.lst ys) m) := rfl
theorem wp_qSeq (a b : QS) (n : Nat) (env : List E) (O : Out) : (qSeq a b).wp n env O = (a.wp n env { O with nx := fun env' n' => b.wp n' env' O }) := rfl
theorem wp_qDrop (e : QE) (n : Nat) (env : List E) (O : Out) : (qDrop e).wp n env O = (e.wp n env fun _ n' => O.nx env n') := rfl
theorem wp_qRet (e : QE) (n : Nat) (env : List E) (O : Out) : (qRet e).wp n env O = (e.wp n env O.rt) := rfl
theorem wp_qIfS (t : QT) (a b : QS) (n : Nat) (env : List E) (O : Out) : (qIfS t a b).wp n env O = (t.wp n env fun c n1 => match c with
    | true => a.wp n1 env O
    | false => b.wp n1 env O) := rfl
theorem wp_qAsg (e : QE) (g : Tgx) (n : Nat) (env : List E) (O : Out) : (qAsg e g).wp n env O = (e.wp n env fun d n1 => ∃ env', g.ev d env = some env' ∧ O.nx env' n1) := rfl
theorem wp_qFor (it : QI) (g : Tgx) (b : QS) (n : Nat) (env : List E) (O : Out) : (qFor it g b).wp n env O = (it.wp n env fun ds n1 => goForQ g b ds n1 env O) := rfl
theorem wp_qWhile (fuel : List E → Nat) (t : QT) (b : QS) (n : Nat) (env : List E) (O : Out) : (qWhile fuel t b).wp n env O = (goWhileQ t b (fuel env) n env O) := rfl
theorem wp_qFz (is : List Nat) (s : QS) (n : Nat) (env : List E) (O : Out) : (qFz is s).wp n env O = (s.wp n (fzAt env is) O) := rfl
theorem wp_qSetF (i : Nat) (e : QF) (n : Nat) (env : List E) (O : Out) : (qSetF i e).wp n env O = (freeAt (unown env i) i = true ∧ e.wp n (unown env i) fun d n1 => O.nx ((unown env i).set i (.own d)) n1) := rfl
theorem wp_qAppend (i : Nat) (e : QE) (n : Nat) (env : List E) (O : Out) : (qAppend i e).wp n env O = (∃ xs, ownAt env[i]? = some (.lst xs) ∧ e.wp n env fun y n1 => Nat.blt xs.length 16777216 = true ∧ O.nx (env.set i (.own (.lst (xs ++ [y])))) n1) := rfl
theorem wp_qExtend (i : Nat) (e : QE) (n : Nat) (env : List E) (O : Out) : (qExtend i e).wp n env O = (∃ xs, ownAt env[i]? = some (.lst xs) ∧ e.wp n env fun y n1 => ∃ ys, lstOf y = some ys ∧ szOk (xs.length + ys.length) = true ∧ O.nx (env.set i (.own (.lst (xs ++ ys)))) n1) := rfl
theorem wp_qPar (i j : Nat) (a : QA) (n : Nat) (env : List E) (O : Out) : (qPar i j a).wp n env O = (a.wp n env fun ds n1 => ∃ x y, ds = [x, y] ∧ O.nx ((env.set i (.d x)).set j (.d y)) n1) := rfl
theorem ev_jEnum1 (a : Exs) (env : List E) : (jEnum1 a).ev env = ((a.ev env).bind fun ds => match ds with
    | [x] => (itemsOf x).bind fun xs => some (enumD 0 xs)
    | _ => none) := rfl
theorem ev_jEnum2 (a : Exs) (env : List E) : (jEnum2 a).ev env = ((a.ev env).bind fun ds => match ds with
    | [x, .int j] => (itemsOf x).bind fun xs => when (sm62 j) (some (enumD j xs))
    | _ => none) := rfl
theorem wp_qParM2 (os : List Nat) (i j : Nat) (ms : List Mi) (n : Nat) (env : List E) (O : Out) : (qParM2 os i j ms).wp n env O = (mxWp ms n (unowns env os) fun es n1 => ∃ env', parEnv [i, j] es (unowns env os) = some env' ∧ O.nx env' n1) := rfl
theorem wp_qParM3 (os : List Nat) (i j l : Nat) (ms : List Mi) (n : Nat) (env : List E) (O : Out) : (qParM3 os i j l ms).wp n env O = (mxWp ms n (unowns env os) fun es n1 => ∃ env', parEnv [i, j, l] es (unowns env os) = some env' ∧ O.nx env' n1) := rfl
theorem wp_qParMN (os : List Nat) (is : List Nat) (ms : List Mi) (n : Nat) (env : List E) (O : Out) : (qParMN os is ms).wp n env O = (mxWp ms n (unowns env os) fun es n1 => ∃ env', parEnv is es (unowns env os) = some env' ∧ szOk es.length = true ∧ O.nx env' n1) := rfl
theorem ev_sParM2 (os : List Nat) (i j : Nat) (ms : List Mp) (env : List E) : (sParM2 os i j ms).ev env = ((mpEv ms (unowns env os)).bind fun es => (parEnv [i, j] es (unowns env os)).bind fun env' => some (.nx env')) := rfl
theorem ev_sParM3 (os : List Nat) (i j l : Nat) (ms : List Mp) (env : List E) : (sParM3 os i j l ms).ev env = ((mpEv ms (unowns env os)).bind fun es => (parEnv [i, j, l] es (unowns env os)).bind fun env' => some (.nx env')) := rfl
theorem ev_sParMN (os : List Nat) (is : List Nat) (ms : List Mp) (env : List E) : (sParMN os is ms).ev env = ((mpEv ms (unowns env os)).bind fun es => when (szOk es.length) ((parEnv is es (unowns env os)).bind fun env' => some (.nx env'))) := rfl
end FR
namespace FR
open PySem PySem.Spec PyProof.Rows L2
variable [TheW]
/-! ## reckoning with evaluators in plain words -/
theorem when_t {α : Type} (a : Option α) : when true a = a := rfl
theorem when_f {α : Type} (a : Option α) : when false a = none := rfl
theorem when_of {α : Type} {b : Bool} {a : Option α} (h : b = true) : when b a = a := by rw [h]; rfl
theorem atEnv_d (x : D) : atEnv (some (.d x)) = some x := rfl
theorem ownAt_o (x : D) : ownAt (some (.own x)) = some x := rfl
theorem blOf_b (b : Bool) : blOf (.bl b) = some b := rfl
theorem inOf_i (b : Int) : inOf (.int b) = some b := rfl
theorem insOf_s (C a dx : Addr) (fs : List (Str × D)) : insOf C (.ins C a dx fs) = some fs := by
  show when (Nat.beq C C) (some fs) = some fs
  rw [Nat.beq_refl]; rfl
theorem dctOf_d (kvs : List (Key × D)) : dctOf (.dct kvs) = some kvs := rfl
theorem keyOf_s (x : Str) : keyOf (.str x) = some (.inr x) := rfl
theorem keyOf_i (x : Int) : keyOf (.int x) = some (.inl x) := rfl
theorem blt_dec (a b : Nat) : Nat.blt a b = decide (a < b) := by
  rw [Bool.eq_iff_iff, decide_eq_true_eq]
  exact ⟨fun h => Nat.le_of_ble_eq_true h, fun h => Nat.ble_eq_true_of_le h⟩
theorem ownAt_a : ownAt (some .any) = none := rfl
theorem ownAt_p : ownAt (some .pot) = none := rfl
theorem ownAt_dd (x : D) : ownAt (some (.d x)) = none := rfl
theorem nbeq (n : Nat) : Nat.beq n n = true := Nat.beq_refl n
theorem sz0 : szOk 0 = true := rfl
theorem sz1 : szOk 1 = true := rfl
theorem sz2 : szOk 2 = true := rfl
theorem sz3 : szOk 3 = true := rfl
theorem sz4 : szOk 4 = true := rfl
theorem sz5 : szOk 5 = true := rfl
theorem sz6 : szOk 6 = true := rfl
theorem sz7 : szOk 7 = true := rfl
theorem sz8 : szOk 8 = true := rfl
theorem lstOf_l (xs : List D) : lstOf (.lst xs) = some xs := rfl
theorem hide_d (x : D) : hideE (.d x) = .d x := rfl
theorem hide_any : hideE .any = .any := rfl
theorem hide_pot : hideE .pot = .pot := rfl
theorem hide_own (x : D) : hideE (.own x) = .any := rfl
theorem frz_d (x : D) : frzE (.d x) = .d x := rfl
theorem frz_any : frzE .any = .any := rfl
theorem frz_pot : frzE .pot = .pot := rfl
theorem frz_own (x : D) : frzE (.own x) = .d x := rfl
theorem end_rt (d : D) : endOf (some (.rt d)) = some d := rfl
theorem end_nx (env : List E) : endOf (some (.nx env)) = some .non := rfl
def lc1 (g : Tgx) (t : Ts) (e : Ex) (env : List E) (d : D) : Option (Option D) := (g.ev d env).bind fun env2 => (t.ev env2).bind fun b => match b with
  | true => (e.ev env2).bind fun y => some (some y)
  | false => some none
theorem goLc_cons {g : Tgx} {t : Ts} {e : Ex} {env : List E} {d : D} {ds : List D} : goLc g t e env (d :: ds) = (lc1 g t e env d).bind fun o => match o with
    | some y => (goLc g t e env ds).bind fun ys => some (y :: ys)
    | none => goLc g t e env ds := by
  show (g.ev d env).bind _ = _
  unfold lc1
  cases g.ev d env with
  | none => rfl
  | some env2 =>
    show (t.ev env2).bind _ = ((t.ev env2).bind _).bind _
    cases t.ev env2 with
    | none => rfl
    | some b =>
      cases b with
      | false => rfl
      | true =>
        show (e.ev env2).bind _ = ((e.ev env2).bind _).bind _
        cases e.ev env2 <;> rfl
theorem goLc_map {α : Type} {g : Tgx} {t : Ts} {e : Ex} {env : List E} {enc f : α → D} : ∀ {xs : List α}, (∀ x ∈ xs, lc1 g t e env (enc x) = some (some (f x))) → goLc g t e env (xs.map enc) = some (xs.map f)
  | [], _ => rfl
  | x :: xs, h => by
    rw [List.map_cons, goLc_cons, h x (by simp)]
    show (goLc g t e env (xs.map enc)).bind _ = _
    rw [goLc_map fun y hy => h y (List.mem_cons_of_mem _ hy)]
    rfl
theorem goLc_filter {α : Type} {g : Tgx} {t : Ts} {e : Ex} {env : List E} {enc f : α → D} {p : α → Bool} : ∀ {xs : List α}, (∀ x ∈ xs, lc1 g t e env (enc x) = some (if p x = true then some (f x) else none)) → goLc g t e env (xs.map enc) = some ((xs.filter p).map f)
  | [], _ => rfl
  | x :: xs, h => by
    rw [List.map_cons, goLc_cons, h x (by simp)]
    have ih := goLc_filter (f := f) (p := p) fun y hy => h y (List.mem_cons_of_mem _ hy)
    cases hp : p x with
    | true =>
      rw [if_pos rfl, List.filter_cons_of_pos hp]
      show (goLc g t e env (xs.map enc)).bind _ = _
      rw [ih]
      rfl
    | false =>
      rw [if_neg (by decide), List.filter_cons_of_neg (by rw [hp]; decide)]
      exact ih
theorem bools_map {α : Type} {f : α → Bool} : ∀ {xs : List α}, bools (xs.map fun x => D.bl (f x)) = some (xs.map f)
  | [] => rfl
  | x :: xs => by
    show (bools (xs.map fun x => D.bl (f x))).bind _ = _
    rw [bools_map]
    rfl
theorem wholes_map {α : Type} {f : α → Int} : ∀ {xs : List α}, wholes (xs.map fun x => D.int (f x)) = some (xs.map f)
  | [] => rfl
  | x :: xs => by
    show (wholes (xs.map fun x => D.int (f x))).bind _ = _
    rw [wholes_map]
    rfl
theorem texts_map {α : Type} {f : α → Str} : ∀ {xs : List α}, textsOf (xs.map fun x => D.str (f x)) = some (xs.map f)
  | [] => rfl
  | x :: xs => by
    show (textsOf (xs.map fun x => D.str (f x))).bind _ = _
    rw [texts_map]
    rfl
theorem all_id {α : Type} {f : α → Bool} {xs : List α} : (xs.map f).all id = xs.all f := by rw [List.all_map]; rfl
theorem any_id {α : Type} {f : α → Bool} {xs : List α} : (xs.map f).any id = xs.any f := by rw [List.any_map]; rfl
/-- all(..) of a comprehension -/
theorem all_lc {α : Type} {g : Tgx} {t : Ts} {e : Ex} {env : List E} {enc : α → D} {f : α → Bool} {xs : List α} (h : ∀ x ∈ xs, lc1 g t e env (enc x) = some (some (.bl (f x)))) : ((goLc g t e env (xs.map enc)).bind fun ys => some (D.lst ys)).bind (fun x => mAll.f [x]) = some (.bl (xs.all f)) := by
  rw [goLc_map (f := fun x => D.bl (f x)) h]
  show (bools (xs.map fun x => D.bl (f x))).bind _ = _
  rw [bools_map]
  show some (D.bl ((xs.map f).all id)) = _
  rw [List.all_map]
  rfl
/-- a for whose turns all go on -/
theorem goFor_rel {α β : Type} {g : Tgx} {b : Stx} {enc : α → D} (R : β → List E → Prop) (step : β → α → β) : ∀ {xs : List α} {s : β} {env : List E}, (∀ s x env, x ∈ xs → R s env → ∃ env2 env3, g.ev (enc x) env = some env2 ∧ b.ev env2 = some (.nx env3) ∧ R (step s x) env3) → R s env →
    ∃ env', goFor g b (xs.map enc) env = some (.nx env') ∧ R (xs.foldl step s) env'
  | [], s, env, _, r => ⟨env, rfl, r⟩
  | x :: xs, s, env, h, r => by
    obtain ⟨env2, env3, h1, h2, h3⟩ := h s x env (by simp) r
    obtain ⟨env', h4, h5⟩ := goFor_rel R step (fun s y e hy => h s y e (List.mem_cons_of_mem _ hy)) h3
    refine ⟨env', ?_, h5⟩
    show (g.ev (enc x) env).bind _ = _
    rw [h1]
    show (b.ev env2).bind _ = _
    rw [h2]
    exact h4
theorem goFor_ixA {α β : Type} {g : Tgx} {b : Stx} {enc : α → D} (R : Nat → β → List E → Prop) (step : β → α → β) : ∀ {xs : List α} {k : Nat} {s : β} {env : List E}, (∀ i s x env, xs[i]? = some x → R (k + i) s env → ∃ env2 env3, g.ev (enc x) env = some env2 ∧ b.ev env2 = some (.nx env3) ∧ R (k + i + 1) (step s x) env3) → R k s env →
    ∃ env', goFor g b (xs.map enc) env = some (.nx env') ∧ R (k + xs.length) (xs.foldl step s) env'
  | [], k, s, env, _, r => ⟨env, rfl, r⟩
  | x :: xs, k, s, env, h, r => by
    obtain ⟨env2, env3, h1, h2, h3⟩ := h 0 s x env rfl r
    obtain ⟨env', h4, h5⟩ := goFor_ixA R step (xs := xs) (k := k + 1) (fun i s y e hy hr => by
      have e1 : k + 1 + i = k + (i + 1) := by omega
      rw [e1] at hr ⊢
      exact h (i + 1) s y e (by simpa using hy) hr) h3
    refine ⟨env', ?_, ?_⟩
    · show (g.ev (enc x) env).bind _ = _
      rw [h1]
      show (b.ev env2).bind _ = _
      rw [h2]
      exact h4
    · have e1 : k + (x :: xs).length = k + 1 + xs.length := by rw [List.length_cons]; omega
      rw [e1]
      exact h5
/-- .. by the number of turns done -/
theorem goFor_ix {α β : Type} {g : Tgx} {b : Stx} {enc : α → D} (R : Nat → β → List E → Prop) (step : β → α → β) {xs : List α} {s : β} {env : List E} (h : ∀ i s x env, xs[i]? = some x → R i s env → ∃ env2 env3, g.ev (enc x) env = some env2 ∧ b.ev env2 = some (.nx env3) ∧ R (i + 1) (step s x) env3) (r : R 0 s env) :
    ∃ env', goFor g b (xs.map enc) env = some (.nx env') ∧ R xs.length (xs.foldl step s) env' := by
  have q := goFor_ixA R step (xs := xs) (k := 0) (s := s) (env := env) (fun i s x env hx hr => by rw [Nat.zero_add] at hr ⊢; exact h i s x env hx hr) r
  rw [Nat.zero_add] at q
  exact q
theorem goWhile_step {t : Ts} {b : Stx} {k : Nat} {env env2 : List E} (h1 : t.ev env = some true) (h2 : b.ev env = some (.nx env2)) : goWhile t b (k + 1) env = goWhile t b k env2 := by
  show (t.ev env).bind _ = _
  rw [h1]
  show (b.ev env).bind _ = _
  rw [h2]
  rfl
theorem goWhile_end {t : Ts} {b : Stx} {k : Nat} {env : List E} (h1 : t.ev env = some false) : goWhile t b (k + 1) env = some (.nx env) := by
  show (t.ev env).bind _ = _
  rw [h1]
  rfl
theorem szOk_of {n : Nat} (h : n ≤ 16777216) : szOk n = true := Nat.ble_eq_true_of_le h
theorem sm62_of {i : Int} (h1 : -4611686018427387903 ≤ i) (h2 : i ≤ 4611686018427387903) : sm62 i = true := Nat.ble_eq_true_of_le (by omega)
theorem sm64_of {i : Int} (h1 : -4611686018427387903 ≤ i) (h2 : i ≤ 4611686018427387903) : sm64 i = true := Nat.ble_eq_true_of_le (by omega)
theorem at0 {α : Type} {x : α} {xs : List α} : atI (x :: xs) 0 = some x := by
  unfold atI ixN
  rw [if_pos (by decide), if_pos (by simp only [List.length_cons]; omega)]
  rfl
theorem at1 {α : Type} {x y : α} {xs : List α} : atI (x :: y :: xs) 1 = some y := by
  unfold atI ixN
  rw [if_pos (by decide), if_pos (by simp only [List.length_cons]; omega)]
  rfl
theorem at2 {α : Type} {x y z : α} {xs : List α} : atI (x :: y :: z :: xs) 2 = some z := by
  unfold atI ixN
  rw [if_pos (by decide), if_pos (by simp only [List.length_cons]; omega)]
  rfl
theorem ex_some {α : Type} {a : α} {P : α → Prop} : (∃ d, some a = some d ∧ P d) = P a := propext ⟨fun ⟨d, h, p⟩ => by cases h; exact p, fun p => ⟨a, rfl, p⟩⟩
theorem ex_int {a : Int} {P : Int → Prop} : (∃ j, [D.int a] = [D.int j] ∧ P j) = P a := propext ⟨fun ⟨d, h, p⟩ => by cases h; exact p, fun p => ⟨a, rfl, p⟩⟩
theorem ex_two {a b : D} {P : D → D → Prop} : (∃ x y, [a, b] = [x, y] ∧ P x y) = P a b := propext ⟨fun ⟨x, y, h, p⟩ => by cases h; exact p, fun p => ⟨a, b, rfl, p⟩⟩
theorem ex_lst {a : List D} {P : List D → Prop} : (∃ xs, some (D.lst a) = some (.lst xs) ∧ P xs) = P a := propext ⟨fun ⟨x, h, p⟩ => by cases h; exact p, fun p => ⟨a, rfl, p⟩⟩
theorem at_nx (O : Out) (n : Nat) (env : List E) : O.at n (.nx env) = O.nx env n := rfl
theorem at_rt (O : Out) (n : Nat) (d : D) : O.at n (.rt d) = O.rt d n := rfl
theorem isNon_i (i : Int) : isNon (.int i) = false := rfl
theorem isNon_s (i : Str) : isNon (.str i) = false := rfl
theorem isNon_n : isNon .non = true := rfl
/-! ### draws -/
/-- a comprehension whose turns each draw something -/
theorem goLcQ_all {g : Tgx} {t : QT} {e : QE} {env : List E} {P : D → Prop} {c : Nat} : ∀ {ds : List D} {acc : List D} {m : Nat} {k : List D → Nat → Prop}, (∀ d ∈ ds, ∀ (acc : List D) (m : Nat) (k : List D → Nat → Prop), m + c ≤ potMost → (∀ y m', P y → m' ≤ m + c → k (acc ++ [y]) m') → ∃ env2, g.ev d env = some env2 ∧ t.wp m env2 fun b m1 => match b with
    | true => e.wp m1 env2 fun y m2 => k (acc ++ [y]) m2
    | false => k acc m1) → m + c * ds.length ≤ potMost → (∀ ys m', ys.length = ds.length → (∀ y ∈ ys, P y) → m' ≤ m + c * ds.length → k (acc ++ ys) m') → goLcQ g t e env ds acc m k
  | [], acc, m, k, _, _, h => by
    have q := h [] m rfl (fun y hy => by cases hy) (by simp)
    rw [List.append_nil] at q
    exact q
  | d :: ds, acc, m, k, h1, hm, h2 => by
    rw [List.length_cons, Nat.mul_add] at hm h2
    refine h1 d (by simp) acc m (fun a m' => goLcQ g t e env ds a m' k) (by omega) fun y m' hy hm' => ?_
    refine goLcQ_all (fun d hd => h1 d (List.mem_cons_of_mem _ hd)) (by omega) fun ys m2 l hp hm2 => ?_
    have q := h2 (y :: ys) m2 (by simp [l]) (fun z hz => by
      rcases List.mem_cons.mp hz with rfl | hz
      · exact hy
      · exact hp z hz) (by omega)
    rw [List.append_assoc]
    exact q
theorem sem_lt (i j : Int) : mLt.f (.int i) (.int j) = some (.bl (decide (i < j))) := rfl
theorem sem_le (i j : Int) : mLe.f (.int i) (.int j) = some (.bl (decide (i ≤ j))) := rfl
theorem sem_gt (i j : Int) : mGt.f (.int i) (.int j) = some (.bl (decide (i > j))) := rfl
theorem sem_ge (i j : Int) : mGe.f (.int i) (.int j) = some (.bl (decide (i ≥ j))) := rfl
theorem sem_ltS (i j : Str) : mLt.f (.str i) (.str j) = some (.bl (ltB i j)) := rfl
theorem sem_leS (i j : Str) : mLe.f (.str i) (.str j) = some (.bl (!ltB j i)) := rfl
theorem sem_add (i j : Int) : mAdd.f (.int i) (.int j) = some (.int (i + j)) := rfl
theorem sem_addT (i j : List D) : mAdd.f (.tup i) (.tup j) = when (szOk (i.length + j.length)) (some (.tup (i ++ j))) := by
  show orElse_ none (orElse_ none (orElse_ (when (szOk (i.length + j.length)) (some (D.tup (i ++ j)))) none)) = _
  cases szOk (i.length + j.length) <;> rfl
theorem sem_addL (i j : List D) : mAdd.f (.lst i) (.lst j) = when (szOk (i.length + j.length)) (some (.lst (i ++ j))) := rfl
theorem sem_sub (i j : Int) : mSub.f (.int i) (.int j) = some (.int (i - j)) := rfl
theorem sem_mul (i j : Int) : mMul.f (.int i) (.int j) = when (sm64 i || sm64 j) (some (.int (i * j))) := rfl
theorem sem_mod (i j : Int) : mMod.f (.int i) (.int j) = when (decide (0 < j)) (some (.int (i % j))) := rfl
theorem sem_div (i j : Int) : mDiv.f (.int i) (.int j) = when (decide (0 < j) && Nat.ble j.toNat 1073741823) (some (.int (i / j))) := rfl
theorem sem_neg (i : Int) : mNeg.f (.int i) = some (.int (-i)) := rfl
theorem sem_is (x : D) : mIs.f x .non = some (.bl (isNon x)) := rfl
theorem sem_isnt (x : D) : mIsnt.f x .non = some (.bl (!isNon x)) := rfl
theorem sem_eqI (i j : Int) : mEq.f (.int i) (.int j) = some (.bl (i == j)) := rfl
theorem sem_neI (i j : Int) : mNe.f (.int i) (.int j) = some (.bl (!(i == j))) := rfl
theorem sem_eqS (i j : Str) : mEq.f (.str i) (.str j) = some (.bl (i == j)) := rfl
theorem sem_neS (i j : Str) : mNe.f (.str i) (.str j) = some (.bl (!(i == j))) := rfl
theorem sem_eqB (i j : Bool) : mEq.f (.bl i) (.bl j) = some (.bl (i == j)) := rfl
theorem sem_lenT (xs : List D) : mLen.f [.tup xs] = some (.int xs.length) := rfl
theorem sem_lenL (xs : List D) : mLen.f [.lst xs] = some (.int xs.length) := rfl
theorem sem_lenS (z : Str) : mLen.f [.str z] = when (szOk z.length) (some (.int z.length)) := rfl
theorem sem_tupL (xs : List D) : mTuple.f [.lst xs] = some (.tup xs) := rfl
theorem sem_tupT (xs : List D) : mTuple.f [.tup xs] = some (.tup xs) := rfl
theorem sem_lstT (xs : List D) : mList.f [.tup xs] = some (.lst xs) := rfl
theorem sem_lstL (xs : List D) : mList.f [.lst xs] = some (.lst xs) := rfl
theorem sem_intI (i : Int) : mInt.f [.int i] = some (.int i) := rfl
theorem sem_intB (b : Bool) : mInt.f [.bl b] = some (.int (if b then 1 else 0)) := rfl
theorem sem_all (xs : List D) : mAll.f [.lst xs] = (bools xs).bind fun bs => some (.bl (bs.all id)) := rfl
theorem sem_any (xs : List D) : mAny.f [.lst xs] = (bools xs).bind fun bs => some (.bl (bs.any id)) := rfl
theorem sem_sum (xs : List D) : mSum.f [.lst xs] = (wholes xs).bind fun bs => some (.int bs.sum) := rfl
theorem sem_min (i j : Int) : mMin2.f [.int i, .int j] = some (.int (if j < i then j else i)) := rfl
theorem sem_max (i j : Int) : mMax2.f [.int i, .int j] = some (.int (if j > i then j else i)) := rfl
theorem sem_ixT (xs : List D) (i : Int) : mIx.f (.tup xs) (.int i) = atI xs i := rfl
theorem sem_ixL (xs : List D) (i : Int) : mIx.f (.lst xs) (.int i) = atI xs i := rfl
theorem sem_ixS (z : Str) (i : Int) : mIx.f (.str z) (.int i) = when (szOk z.length) ((atI z.cps.toList i).bind fun c => some (.str ⟨#[c]⟩)) := rfl
theorem sem_repr (x : D) : mRepr.f [x] = when (canShow x) (some (.str (py x).shown)) := rfl
theorem sem_slT (xs : List D) (lo hi : Option Int) : mSl.f (.tup xs) lo hi = some (.tup (cutD xs lo hi)) := rfl
theorem sem_slL (xs : List D) (lo hi : Option Int) : mSl.f (.lst xs) lo hi = some (.lst (cutD xs lo hi)) := rfl
theorem items_T (xs : List D) : itemsOf (.tup xs) = some xs := rfl
theorem items_L (xs : List D) : itemsOf (.lst xs) = some xs := rfl
theorem items_S (z : Str) : itemsOf (.str z) = some (signs z) := rfl
theorem isi_int_int (i : Int) : mIsi.f [.int i, .ty "int"] = some (.bl true) := rfl
theorem isi_int_bool (i : Int) : mIsi.f [.int i, .ty "bool"] = some (.bl false) := rfl
theorem isi_int_str (i : Int) : mIsi.f [.int i, .ty "str"] = some (.bl false) := rfl
theorem isi_int_tuple (i : Int) : mIsi.f [.int i, .ty "tuple"] = some (.bl false) := rfl
theorem isi_int_list (i : Int) : mIsi.f [.int i, .ty "list"] = some (.bl false) := rfl
theorem isi_int_dict (i : Int) : mIsi.f [.int i, .ty "dict"] = some (.bl false) := rfl
theorem isi_bl_int (b : Bool) : mIsi.f [.bl b, .ty "int"] = some (.bl true) := rfl
theorem isi_bl_bool (b : Bool) : mIsi.f [.bl b, .ty "bool"] = some (.bl true) := rfl
theorem isi_bl_str (b : Bool) : mIsi.f [.bl b, .ty "str"] = some (.bl false) := rfl
theorem isi_bl_tuple (b : Bool) : mIsi.f [.bl b, .ty "tuple"] = some (.bl false) := rfl
theorem isi_bl_list (b : Bool) : mIsi.f [.bl b, .ty "list"] = some (.bl false) := rfl
theorem isi_bl_dict (b : Bool) : mIsi.f [.bl b, .ty "dict"] = some (.bl false) := rfl
theorem isi_str_int (z : Str) : mIsi.f [.str z, .ty "int"] = some (.bl false) := rfl
theorem isi_str_bool (z : Str) : mIsi.f [.str z, .ty "bool"] = some (.bl false) := rfl
theorem isi_str_str (z : Str) : mIsi.f [.str z, .ty "str"] = some (.bl true) := rfl
theorem isi_str_tuple (z : Str) : mIsi.f [.str z, .ty "tuple"] = some (.bl false) := rfl
theorem isi_str_list (z : Str) : mIsi.f [.str z, .ty "list"] = some (.bl false) := rfl
theorem isi_str_dict (z : Str) : mIsi.f [.str z, .ty "dict"] = some (.bl false) := rfl
theorem isi_tup_int (xs : List D) : mIsi.f [.tup xs, .ty "int"] = some (.bl false) := rfl
theorem isi_tup_bool (xs : List D) : mIsi.f [.tup xs, .ty "bool"] = some (.bl false) := rfl
theorem isi_tup_str (xs : List D) : mIsi.f [.tup xs, .ty "str"] = some (.bl false) := rfl
theorem isi_tup_tuple (xs : List D) : mIsi.f [.tup xs, .ty "tuple"] = some (.bl true) := rfl
theorem isi_tup_list (xs : List D) : mIsi.f [.tup xs, .ty "list"] = some (.bl false) := rfl
theorem isi_tup_dict (xs : List D) : mIsi.f [.tup xs, .ty "dict"] = some (.bl false) := rfl
theorem isi_lst_int (xs : List D) : mIsi.f [.lst xs, .ty "int"] = some (.bl false) := rfl
theorem isi_lst_bool (xs : List D) : mIsi.f [.lst xs, .ty "bool"] = some (.bl false) := rfl
theorem isi_lst_str (xs : List D) : mIsi.f [.lst xs, .ty "str"] = some (.bl false) := rfl
theorem isi_lst_tuple (xs : List D) : mIsi.f [.lst xs, .ty "tuple"] = some (.bl false) := rfl
theorem isi_lst_list (xs : List D) : mIsi.f [.lst xs, .ty "list"] = some (.bl true) := rfl
theorem isi_lst_dict (xs : List D) : mIsi.f [.lst xs, .ty "dict"] = some (.bl false) := rfl
theorem isi_non_int  : mIsi.f [.non, .ty "int"] = some (.bl false) := rfl
theorem isi_non_bool  : mIsi.f [.non, .ty "bool"] = some (.bl false) := rfl
theorem isi_non_str  : mIsi.f [.non, .ty "str"] = some (.bl false) := rfl
theorem isi_non_tuple  : mIsi.f [.non, .ty "tuple"] = some (.bl false) := rfl
theorem isi_non_list  : mIsi.f [.non, .ty "list"] = some (.bl false) := rfl
theorem isi_non_dict  : mIsi.f [.non, .ty "dict"] = some (.bl false) := rfl
theorem isi_dct_int (kvs : List (Key × D)) : mIsi.f [.dct kvs, .ty "int"] = some (.bl false) := rfl
theorem isi_dct_bool (kvs : List (Key × D)) : mIsi.f [.dct kvs, .ty "bool"] = some (.bl false) := rfl
theorem isi_dct_str (kvs : List (Key × D)) : mIsi.f [.dct kvs, .ty "str"] = some (.bl false) := rfl
theorem isi_dct_tuple (kvs : List (Key × D)) : mIsi.f [.dct kvs, .ty "tuple"] = some (.bl false) := rfl
theorem isi_dct_list (kvs : List (Key × D)) : mIsi.f [.dct kvs, .ty "list"] = some (.bl false) := rfl
theorem isi_dct_dict (kvs : List (Key × D)) : mIsi.f [.dct kvs, .ty "dict"] = some (.bl true) := rfl
end FR
namespace FR
open PySem PySem.Spec PyProof.Rows L2
variable [TheW]
/-! ## a, b, c = x, y, z with draws -/
def qPar3 (i j l : Nat) (a : QA) : QS := ⟨fun K => tPar3 i j l (a.ta K), fun n env O => a.wp n env fun ds n1 => ∃ x y z, ds = [x, y, z] ∧ O.nx (((env.set i (.d x)).set j (.d y)).set l (.d z)) n1, a.nd, fun {W n env O} k h => ws_par3 (a.ok k h)⟩
theorem te_qPar3 (i j l : Nat) (a : QA) (K : PySem.W.Frag) : (qPar3 i j l a).ts K = tPar3 i j l (a.ta K) := rfl
theorem wp_qPar3 (i j l : Nat) (a : QA) (n : Nat) (env : List E) (O : Out) : (qPar3 i j l a).wp n env O = (a.wp n env fun ds n1 => ∃ x y z, ds = [x, y, z] ∧ O.nx (((env.set i (.d x)).set j (.d y)).set l (.d z)) n1) := rfl
end FR
namespace FR
open PySem PySem.Spec PyProof.Rows L2
variable [TheW]
/-! ## dicts whose keys are tuples, nested -/
mutual
def keyN : D → Option NestedKey
  | .tup xs => (keyNL xs).bind fun ks => some (.tup ks)
  | .non => some .none
  | .int i => some (.num i)
  | .str x => some (.text x)
  | .bl _ => none
  | .lst _ => none
  | .dct _ => none
  | .ty _ => none
  | .lsq _ => none
  | .dcT _ => none
  | .ins _ _ _ _ => none
  | .tpk _ => none
def keyNL : List D → Option (List NestedKey)
  | [] => some []
  | x :: xs => (keyN x).bind fun k => (keyNL xs).bind fun ks => some (k :: ks)
end
mutual
theorem keyN_inv : ∀ {d : D} {k : NestedKey}, keyN d = some k → nkD k = d
  | .tup xs, k, h => by
    rw [keyN] at h
    obtain ⟨ks, h1, h2⟩ := bind_inv h
    cases h2
    rw [nkD, keyNL_inv h1]
  | .non, k, h => by rw [keyN] at h; cases h; rw [nkD]
  | .int i, k, h => by rw [keyN] at h; cases h; rw [nkD]
  | .str i, k, h => by rw [keyN] at h; cases h; rw [nkD]
  | .bl _, k, h => by rw [keyN] at h; cases h
  | .lst _, k, h => by rw [keyN] at h; cases h
  | .dct _, k, h => by rw [keyN] at h; cases h
  | .ty _, k, h => by rw [keyN] at h; cases h
  | .lsq _, k, h => by rw [keyN] at h; cases h
  | .dcT _, k, h => by rw [keyN] at h; cases h
  | .ins _ _ _ _, k, h => by rw [keyN] at h; cases h
  | .tpk _, k, h => by rw [keyN] at h; cases h
theorem keyNL_inv : ∀ {d : List D} {k : List NestedKey}, keyNL d = some k → nkD.nkL k = d
  | [], k, h => by rw [keyNL] at h; cases h; rw [nkD.nkL]
  | x :: xs, k, h => by
    rw [keyNL] at h
    obtain ⟨k1, h1, h⟩ := bind_inv h
    obtain ⟨ks, h2, h⟩ := bind_inv h
    cases h
    rw [nkD.nkL, keyN_inv h1, keyNL_inv h2]
end
/-- a datum that may be a key: a tuple, at most eight deep -/
def keyT : D → Option NestedKey
  | .tup xs => (keyN (.tup xs)).bind fun k => when (Nat.ble k.depth 8) (some k)
  | _ => none
theorem keyT_inv {d : D} {k : NestedKey} (h : keyT d = some k) : nkD k = d ∧ k.depth ≤ 8 := by
  cases d with
  | tup xs =>
    obtain ⟨k1, h1, h⟩ := bind_inv h
    obtain ⟨h2, h⟩ := when_inv h
    cases h
    exact ⟨keyN_inv h1, Nat.le_of_ble_eq_true h2⟩
  | _ => cases h
def valT (kvs : List (NestedKey × D)) (k : NestedKey) : Option D := (kvs.find? fun kv => decide (kv.1 = k)).map (·.2)
def putT (kvs : List (NestedKey × D)) (k : NestedKey) (v : D) : List (NestedKey × D) :=
  if (kvs.any fun kv => decide (kv.1 = k)) = true then kvs.map (fun kv => if kv.1 = k then (kv.1, v) else kv) else kvs ++ [(k, v)]
/-! ### at the heap -/
abbrev Es := List (NestedKey × Addr × V)
def valE (es : Es) (k : NestedKey) : Option V := (es.find? fun e => decide (e.1 = k)).map (·.2.2)
def putE (es : Es) (k : NestedKey) (q : Addr) (v : V) : Es :=
  if (es.any fun e => decide (e.1 = k)) = true then es.map (fun e => if e.1 = k then (e.1, e.2.1, v) else e) else es ++ [(k, q, v)]
def KeyAt (K : PySem.W.Frag) (H : Hp) (k : NestedKey) (q : Addr) : Prop := k.depth ≤ 8 ∧ Rp K H (.ref q) (nkD k)
def KeysAt (K : PySem.W.Frag) (H : Hp) (es : Es) : Prop := ∀ e ∈ es, KeyAt K H e.1 e.2.1
section
variable {X : Cx} {pins : List (Addr × Obj)} {σ : L2.St} {H : Hp} {s : Shared} {a : Addr}
mutual
theorem nested_of (I : Inv X pins σ H s) : ∀ (k : NestedKey) {v : V} {u : Value}, Rp X.K H v (nkD k) → RelV v u → NestedIs s.heap k u
  | .none, v, u, r, e => by
    rw [nkD] at r
    cases r
    cases e
    exact .none
  | .num i, v, u, r, e => by
    rw [nkD] at r
    cases r
    obtain ⟨t, rfl⟩ := e
    exact .int _ _
  | .text x, v, u, r, e => by
    rw [nkD] at r
    cases r
    obtain ⟨t, rfl⟩ := e
    exact .text _ _
  | .tup ks, v, u, r, e => by
    rw [nkD] at r
    cases r with
    | tup hp hr =>
      cases e
      obtain ⟨its, rr, p, _⟩ := I.tuple hp.sq
      obtain ⟨o, ho, hc, n, hd⟩ := p
      exact .tup ho hc hd (by rw [List.toList_toArray]; exact nestedL_of I ks hr rr)
theorem nestedL_of (I : Inv X pins σ H s) : ∀ (ks : List NestedKey) {vs : List V} {us : List Value}, RpL X.K H vs (nkD.nkL ks) → Vals vs us → NestedAll s.heap ks us
  | [], vs, us, r, e => by
    rw [nkD.nkL] at r
    cases r
    cases e
    exact .nil
  | k :: ks, vs, us, r, e => by
    rw [nkD.nkL] at r
    cases r with
    | cons a b =>
      cases e with
      | cons c d => exact .cons (nested_of I k a c) (nestedL_of I ks b d)
end
abbrev RelE : NestedKey × Addr × V → NestedKey × Addr × Value → Prop := fun e x => e.1 = x.1 ∧ e.2.1 = x.2.1 ∧ RelV e.2.2 x.2.2
theorem dc_list {w : World} {P : Program} : ∀ {es : Es} {ents : List DictEntry}, Paired (fun (x : NestedKey × Addr × V) (e : DictEntry) => e.hash = x.1.hash w ∧ e.key = .ref x.2.1 ∧ RelV x.2.2 e.val) es ents →
    ∃ xs, Paired RelE es xs ∧ ents = xs.map (entryOfKey (nestedKind P w)) ∧ xs.map (·.1) = es.map (·.1)
  | _, _, .nil => ⟨[], .nil, rfl, rfl⟩
  | _, _, .cons (a := x) (b := e) h t => by
    obtain ⟨xs, h1, h2, h3⟩ := dc_list (P := P) t
    refine ⟨(x.1, x.2.1, e.val) :: xs, .cons ⟨rfl, rfl, h.2.2⟩ h1, ?_, by rw [List.map_cons, List.map_cons, h3]⟩
    rw [List.map_cons, ← h2]
    congr 1
    obtain ⟨hh, kk, vv⟩ := e
    obtain ⟨e1, e2, _⟩ := h
    dsimp only at e1 e2
    subst e1 e2
    rfl
theorem relE_keys {h : Heap} {K : PySem.W.Frag} (f : ∀ k q, KeyAt K H k q → NestedIs h k (.ref q)) : ∀ {es : Es} {xs : List (NestedKey × Addr × Value)}, Paired RelE es xs → KeysAt K H es → ∀ x ∈ xs, NestedIs h x.1 (.ref x.2.1) ∧ x.1.depth ≤ 8
  | _, _, .nil, _, x, hx => by cases hx
  | _, _, .cons (a := e) (b := y) r t, hk, x, hx => by
    rcases List.mem_cons.mp hx with rfl | hx
    · have := hk e List.mem_cons_self
      rw [← r.1, ← r.2.1]
      exact ⟨f _ _ this, this.1⟩
    · exact relE_keys f t (fun e he => hk e (List.mem_cons_of_mem _ he)) x hx
theorem dc_rd {es : Es} (I : Inv X pins σ H s) (hw : X.w = TheW.w) (e : Rd H a (DcO TheW.w a es)) (hk : KeysAt X.K H es) :
    es.length ≤ sizeLine ∧ (a == sysModules) = false ∧ ∃ xs, Paired RelE es xs ∧ s.heap.DictOfH (nestedKind X.prog X.w) a xs := by
  obtain ⟨⟨z, hd, nd, o, ents, ep, ho, hex, hda, pr⟩, _, _⟩ := e.ok I.hok
  rw [← hw] at pr
  obtain ⟨xs, h1, h2, h3⟩ := dc_list (P := X.prog) pr
  exact ⟨z, hd, xs, h1, o, ents, ep, ho, hex, hda, h2, relE_keys (fun k q hq => nested_of I k hq.2 rfl) h1 hk, by rw [h3]; exact nd⟩
theorem relE_val {k : NestedKey} : ∀ {es : Es} {xs : List (NestedKey × Addr × Value)}, Paired RelE es xs → (valE es k = none ∧ atKey xs k = none) ∨ ∃ v p, valE es k = some v ∧ atKey xs k = some p ∧ RelV v p.2
  | _, _, .nil => .inl ⟨rfl, rfl⟩
  | _, _, .cons (a := e) (b := y) r t => by
    have ih := relE_val (k := k) t
    unfold valE atKey at *
    by_cases h : e.1 = k
    · right
      have h' : y.1 = k := by rw [← r.1]; exact h
      exact ⟨e.2.2, y.2, by simp [List.find?_cons, h], by simp [List.find?_cons, h'], r.2.2⟩
    · have h' : ¬ y.1 = k := by rw [← r.1]; exact h
      simp only [List.find?_cons, h, h', decide_false]
      exact ih
theorem relE_any {k : NestedKey} {es : Es} {xs : List (NestedKey × Addr × Value)} (r : Paired RelE es xs) : (es.any fun e => decide (e.1 = k)) = (atKey xs k).isSome := by
  induction r with
  | nil => rfl
  | @cons e y es xs r t ih =>
    unfold atKey at *
    rw [List.any_cons]
    by_cases h : e.1 = k
    · have h' : y.1 = k := by rw [← r.1]; exact h
      simp [List.find?_cons, h, h']
    · have h' : ¬ y.1 = k := by rw [← r.1]; exact h
      simp only [List.find?_cons, h, h', decide_false, Bool.false_or]
      exact ih
theorem relE_over {k : NestedKey} {v : V} {u : Value} (rv : RelV v u) {es : Es} {xs : List (NestedKey × Addr × Value)} (r : Paired RelE es xs) : Paired RelE (es.map fun e => if e.1 = k then (e.1, e.2.1, v) else e) (xs.map (putAt k u)) := by
  induction r with
  | nil => exact .nil
  | @cons e y es xs r t ih =>
    rw [List.map_cons, List.map_cons]
    refine .cons ?_ ih
    unfold putAt
    by_cases h : e.1 = k
    · have h' : y.1 = k := by rw [← r.1]; exact h
      rw [if_pos h, if_pos h']
      exact ⟨r.1, r.2.1, rv⟩
    · have h' : ¬ y.1 = k := by rw [← r.1]; exact h
      rw [if_neg h, if_neg h']
      exact r
theorem relE_app {es es2 : Es} {xs xs2 : List (NestedKey × Addr × Value)} (r : Paired RelE es xs) (r2 : Paired RelE es2 xs2) : Paired RelE (es ++ es2) (xs ++ xs2) := by
  induction r with
  | nil => exact r2
  | cons h t ih => exact .cons h ih
theorem relE_put {k : NestedKey} {q : Addr} {v : V} {u : Value} (rv : RelV v u) {es : Es} {xs : List (NestedKey × Addr × Value)} (r : Paired RelE es xs) : Paired RelE (putE es k q v) (storedH xs k q u) := by
  unfold putE storedH
  rw [relE_any (k := k) r]
  split
  · exact relE_over rv r
  · exact relE_app r (.cons ⟨rfl, rfl, rv⟩ .nil)
theorem relE_ents {w : World} {P : Program} {es : Es} {xs : List (NestedKey × Addr × Value)} (r : Paired RelE es xs) : Paired (fun (x : NestedKey × Addr × V) (e : DictEntry) => e.hash = x.1.hash w ∧ e.key = .ref x.2.1 ∧ RelV x.2.2 e.val) es (xs.map (entryOfKey (nestedKind P w))) ∧ es.map (·.1) = xs.map (·.1) := by
  induction r with
  | nil => exact ⟨.nil, rfl⟩
  | @cons e y es xs r t ih =>
    obtain ⟨i1, i2⟩ := ih
    refine ⟨?_, by rw [List.map_cons, List.map_cons, i2, r.1]⟩
    rw [List.map_cons]
    exact .cons ⟨by rw [r.1]; rfl, by rw [r.2.1]; rfl, r.2.2⟩ i1
theorem dc_mk {P : Program} {w w' : World} {h : Heap} {es : Es} {xs : List (NestedKey × Addr × Value)} (z : es.length ≤ sizeLine) (hd : (a == sysModules) = false) (r : Paired RelE es xs) (dd : h.DictOfH (nestedKind P w) a xs) : ObjOk P w' H h a (DcO w a es) := by
  obtain ⟨o, ents, ep, ho, hex, hda, he, _, nd⟩ := dd
  obtain ⟨i1, i2⟩ := relE_ents (w := w) (P := P) r
  refine ⟨⟨z, hd, by rw [i2]; exact nd, o, ents, ep, ho, hex, hda, by rw [he]; exact i1⟩, ⟨o, ho⟩, fun h1 h2 ⟨z, hd, nd, o, ents, ep, ho, rest⟩ st => ⟨z, hd, nd, o, ents, ep, st o ho, rest⟩⟩
theorem putE_len (es : Es) (k : NestedKey) (q : Addr) (v : V) : (putE es k q v).length ≤ es.length + 1 := by
  unfold putE
  split
  · rw [List.length_map]; omega
  · rw [List.length_append]; exact Nat.le_refl _
/-! ### rules -/
def tDNewD : TE := fun _ H Q => ∀ p, H p = none → Q (.ref p) (upd H p (DcO TheW.w p []))
theorem pe_dnewD {pos : Pos} : PE X (.Dict [] [] pos) tDNewD := ⟨fun pins s σ H Q I h =>
  wpAny_Dict_empty ⟨.ref s.heap.objs.size, _, I.laid (a := s.heap.objs.size) (o := DcO TheW.w s.heap.objs.size []) (t' := s.toks) (fun _ _ q => Heap.get?_push_of_some _ q) (Nat.le_refl _)
    (dc_mk (P := X.prog) (Nat.zero_le _) (beq_eq_false_iff_ne.mpr (Ne.symm (Nat.ne_of_lt I.big))) .nil (Heap.DictOfH.new s.heap)), rfl, h _ (I.hok.fresh (Nat.le_refl _))⟩⟩
/-- d[y] -/
def tDGetD (K : PySem.W.Frag) (td ty : TE) : TE := fun σ H Q => td σ H fun x H1 => ty σ H1 fun y H2 => ∃ a q es k v, x = .ref a ∧ y = .ref q ∧ Rd H2 a (DcO TheW.w a es) ∧ KeysAt K H2 es ∧ KeyAt K H2 k q ∧ valE es k = some v ∧ Q v H2
theorem pe_dgetD {o i : Expr} {td ty : TE} {pos : Pos} {K : PySem.W.Frag} (hK : X.K = K) (hw : X.w = TheW.w) (hu : X.A.units + 64 < cLine) (ho : PE X o td) (hi : PE X i ty) (hs : NoSl i) : PE X (.Subscript o i pos) (tDGetD K td ty) := by
  subst hK
  refine ⟨fun pins s σ H Q I h => ?_⟩
  refine subD_of PySem.F.slot_dict_getitem.lookup hs (thn (ho.run pins s σ H _ I h) fun u s1 ⟨x, H1, I1, rx, q1⟩ => thn (hi.run pins s1 σ H1 _ I1 q1) fun iv s2 ⟨y, H2, I2, ry, a, q, es, k, v, ex, ey, hr, hk, hq, hv, q2⟩ => ?_)
  subst ex ey
  obtain rfl : u = Value.ref a := rx
  obtain rfl : iv = Value.ref q := ry
  obtain ⟨z, hd, xs, rel, dd⟩ := dc_rd I2 hw hr hk
  rcases relE_val (k := k) rel with ⟨e1, _⟩ | ⟨v', p, e1, e2, rv⟩
  · rw [hv] at e1; cases e1
  · rw [hv] at e1
    cases e1
    refine ⟨dd.typeIs, wpAny_getItem_heap (show (nestedKind X.prog X.w).room X.A.in1 from ?_) ⟨nested_of I2 k hq.2 rfl, hq.1⟩ dd e2 ⟨v, H2, I2.tok _, rv, q2⟩⟩
    show X.A.in1.units + 8 < cLine
    have : X.A.in1.units ≤ X.A.units + 1 := by
      first | exact Nat.le_refl _ | (show X.A.units + 1 ≤ X.A.units + 1; exact Nat.le_refl _)
    omega
/-- d[y] = v -/
def sDPutD (K : PySem.W.Frag) (td ty tv : TE) : TS := fun D σ H => tv σ H fun v H1 => td σ H1 fun x H2 => ty σ H2 fun y H3 => ∃ a q es k, x = .ref a ∧ y = .ref q ∧ H3 a = some (DcO TheW.w a es) ∧ KeysAt K H3 es ∧ KeyAt K H3 k q ∧ es.length < sizeLine ∧ D.nx σ (upd H3 a (DcO TheW.w a (putE es k q v)))
theorem ps_dputD {o i value : Expr} {td ty tv : TE} {pos pos' : Pos} {K : PySem.W.Frag} (hK : X.K = K) (hw : X.w = TheW.w) (hu : X.A.units + 64 < cLine) (ho : PE X o td) (hi : PE X i ty) (hv : PE X value tv) (hs : swapsWith value (some (.Subscript o i pos')) pos.line X.env = pure false) :
    PS X (.Assign [.Subscript o i pos'] value pos) (sDPutD K td ty tv) := by
  subst hK
  refine ⟨fun pins s σ H D I h => ?_⟩
  refine wpAny_Assign_Subscript (thn (hv.run pins s σ H _ I h) fun r s1 ⟨v, H1, I1, rv, q1⟩ => thn (ho.run pins s1 σ H1 _ I1 q1) fun u s2 ⟨x, H2, I2, rx, q2⟩ => thn (hi.run pins s2 σ H2 _ I2 q2) fun iv s3 ⟨y, H3, I3, ry, a, q, es, k, ex, ey, hr, hk, hq, hl, q3⟩ => ?_) hs
  subst ex ey
  obtain rfl : u = Value.ref a := rx
  obtain rfl : iv = Value.ref q := ry
  obtain ⟨z, hd, xs, rel, dd⟩ := dc_rd I3 hw (.inl hr) hk
  have hz : xs.length ≤ sizeLine := by rw [← Paired.length rel]; exact z
  refine wpAny_setItem_heap (hsz := hz) (show (nestedKind X.prog X.w).room X.A.in1 from ?_) ⟨nested_of I3 k hq.2 rfl, hq.1⟩ dd fun h' dd' sb => ⟨σ, _, ?_, q3⟩
  · show X.A.in1.units + 8 < cLine
    have : X.A.in1.units ≤ X.A.units + 1 := by
      first | exact Nat.le_refl _ | (show X.A.units + 1 ≤ X.A.units + 1; exact Nat.le_refl _)
    omega
  · have he : ∃ q, h'.get? a = some q := let ⟨q, _, _, hq, _⟩ := dd'; ⟨q, hq⟩
    refine d_write I3 (by rw [hr]; exact True.intro) sb he ?_
    rw [← hw]
    exact dc_mk (P := X.prog) (w := X.w) (Nat.le_trans (putE_len es k q v) hl) hd (relE_put rv rel) dd'
end
end FR
namespace FR
open PySem PySem.Spec PyProof.Rows L2
variable [TheW]
/-! ## dicts with tuple keys, over data -/
section
variable {K : PySem.W.Frag} {U : Hp}
theorem RpT.len : ∀ {es : Es} {ds : List (NestedKey × D)}, RpT K U es ds → es.length = ds.length
  | _, _, .nil => rfl
  | _, _, .cons _ _ _ b => by rw [List.length_cons, List.length_cons, RpT.len b]
theorem RpT.keys : ∀ {es : Es} {ds : List (NestedKey × D)}, RpT K U es ds → KeysAt K U es
  | _, _, .nil, e, he => by cases he
  | _, _, .cons z c a b, e, he => by
    rcases List.mem_cons.mp he with rfl | he
    · exact ⟨z, c⟩
    · exact RpT.keys b e he
theorem RpT.val {k : NestedKey} : ∀ {es : Es} {ds : List (NestedKey × D)}, RpT K U es ds → (∀ d, valT ds k = some d → ∃ v, valE es k = some v ∧ Rp K U v d) ∧ (valE es k).isSome = (valT ds k).isSome
  | _, _, .nil => ⟨fun d h => by simp [valT] at h, rfl⟩
  | _, _, .cons (k := k') z c a b => by
    obtain ⟨h1, h2⟩ := RpT.val (k := k) b
    unfold valT valE at *
    by_cases e : k' = k
    · refine ⟨fun d h => ?_, by simp [List.find?_cons, e]⟩
      simp [List.find?_cons, e] at h
      subst h
      exact ⟨_, by simp [List.find?_cons, e], a⟩
    · simp only [List.find?_cons, e, decide_false]
      exact ⟨h1, h2⟩
theorem RpT.any {k : NestedKey} : ∀ {es : Es} {ds : List (NestedKey × D)}, RpT K U es ds → (es.any fun e => decide (e.1 = k)) = ds.any fun kv => decide (kv.1 = k)
  | _, _, .nil => rfl
  | _, _, .cons _ _ _ b => by rw [List.any_cons, List.any_cons, RpT.any b]
theorem RpT.app : ∀ {es es2 : Es} {ds ds2 : List (NestedKey × D)}, RpT K U es ds → RpT K U es2 ds2 → RpT K U (es ++ es2) (ds ++ ds2)
  | _, _, _, _, .nil, h => h
  | _, _, _, _, .cons z c a b, h => .cons z c a (RpT.app b h)
theorem RpT.over {k : NestedKey} {v : V} {d : D} (h : Rp K U v d) : ∀ {es : Es} {ds : List (NestedKey × D)}, RpT K U es ds → RpT K U (es.map fun e => if e.1 = k then (e.1, e.2.1, v) else e) (ds.map fun kv => if kv.1 = k then (kv.1, d) else kv)
  | _, _, .nil => .nil
  | _, _, .cons (k := k') z c a b => by
    rw [List.map_cons, List.map_cons]
    by_cases e : k' = k
    · simp only [e, if_true]; exact .cons (e ▸ z) (e ▸ c) h (RpT.over h b)
    · simp only [e, if_false]; exact .cons z c a (RpT.over h b)
theorem RpT.put {k : NestedKey} {q : Addr} {v : V} {d : D} {es : Es} {ds : List (NestedKey × D)} (r : RpT K U es ds) (hz : k.depth ≤ 8) (hk : Rp K U (.ref q) (nkD k)) (h : Rp K U v d) : RpT K U (putE es k q v) (putT ds k d) := by
  unfold putE putT
  rw [r.any (k := k)]
  split
  · exact r.over h
  · exact r.app (.cons hz hk h .nil)
theorem KeysAt.mono {H : Hp} (e : Same U H) {es : Es} (h : KeysAt K U es) : KeysAt K H es := fun x hx => ⟨(h x hx).1, (h x hx).2.mono e⟩
/-- a key's value is an address -/
theorem key_ref {d : D} {k : NestedKey} {v : V} (hk : keyT d = some k) (r : Rp K U v d) : ∃ q, v = .ref q := by
  cases d with
  | tup xs => cases r with | tup _ _ => exact ⟨_, rfl⟩
  | _ => cases hk
end
section
variable {W : Wo} {n : Nat} {env stk : List E} {σ : L2.St} {vs : L2.St} {H : Hp} {d x y z : D} {v vx vy vz : V} {i : Nat} {Φ : D → Nat → Prop} {O : Out} {td ty te : TE} {kvs : List (NestedKey × D)}
theorem wp_dgetD (q : Wp W td n env fun x n1 => ∃ kvs, x = .dcT kvs ∧ Wp W ty n1 env fun y n2 => ∃ k d, keyT y = some k ∧ valT kvs k = some d ∧ Φ d n2) : Wp W (tDGetD W.K td ty) n env Φ := fun σ stk vs H Q w kk =>
  q σ stk vs H _ w fun vd d n1 H1 q1 w1 => by
    obtain ⟨kvs, rfl, q1⟩ := q1
    refine q1 σ _ _ H1 _ w1 fun vk y n2 H2 q2 w2 => ?_
    obtain ⟨k, d, hk, hd, q2⟩ := q2
    obtain ⟨k1, h1, pp, M1, M2, a, nd, b, c⟩ := w2
    obtain ⟨⟨u, e, rk⟩, ⟨u2, e2, rd⟩, c⟩ := c
    cases e
    cases e2
    obtain ⟨q, rfl⟩ := key_ref hk rk
    obtain ⟨ek, dk⟩ := keyT_inv hk
    cases rd with
    | dcT ha hr =>
      obtain ⟨v, hv, rv⟩ := (hr.val (k := k)).1 d hd
      have sm := era_sub H2 (W.M0 ++ (M1 ++ M2))
      refine ⟨_, q, _, k, v, rfl, rfl, same_rd sm ha, hr.keys.mono sm, ⟨dk, by rw [ek]; exact rk.mono sm⟩, hv, kk v d n2 H2 q2 ⟨k1, h1, pp, M1, M2, a, nd, b, ⟨v, rfl, rv⟩, c⟩⟩
def dctT : D → Option (List (NestedKey × D))
  | .dcT kvs => some kvs
  | _ => none
theorem dctT_inv {d : D} {kvs : List (NestedKey × D)} (h : dctT d = some kvs) : d = .dcT kvs := by
  cases d <;> first | (cases h; done) | (cases h; rfl)
def xDGetT (a b : Ex) : Ex := ⟨fun K => tDGetD K (a.te K) (b.te K), fun env => (a.ev env).bind fun x => (dctT x).bind fun kvs => (b.ev env).bind fun y => (keyT y).bind fun k => valT kvs k, two a.nd b.nd, fun k h q => by
  obtain ⟨x, h1, g1⟩ := bind_inv h
  obtain ⟨kvs, h2, g2⟩ := bind_inv g1
  obtain ⟨y, h3, g3⟩ := bind_inv g2
  obtain ⟨key, h4, g4⟩ := bind_inv g3
  cases dctT_inv h2
  exact wp_dgetD (a.ok k.1 h1 ⟨_, rfl, b.ok k.2 h3 ⟨key, _, h4, g4, q⟩⟩)⟩
/-- d = {}, to be filled -/
def fDNewT : Fx := ⟨fun _ => tDNewD, fun _ => some (.dcT []), tru, fun _ h q σ stk vs H Q w k p hp => by
  cases h
  exact k p _ _ _ q (w.newOw hp fun _ => .dcT .nil)⟩
/-- an owned thing changed by two data -/
theorem Wd.ownPut2 {x : D} (w : Wd W n env σ (.d z :: .d y :: stk) (some vz :: some vy :: vs) H) (hi : env[i]? = some (.own x)) :
    ∃ p u U, σ[i]? = some (some (.ref p)) ∧ H p = some u ∧ Same U H ∧ OwR W.K U p u x ∧ Rp W.K U vz z ∧ Rp W.K U vy y ∧ ∀ u' x', OwR W.K U p u' x' → Wd W n (env.set i (.own x')) σ stk vs (upd H p u') := by
  obtain ⟨k1, h1, pp, M1, M2, a, nd, b, c⟩ := w
  obtain ⟨⟨u, e, rz⟩, ⟨u2, e2, ry⟩, c⟩ := c
  cases e
  cases e2
  obtain ⟨p, Ma, Mb, wz, e1, e2, e3, e4, f, g⟩ := b.owned hi
  subst e1
  have p0 := (a p (by simp)).1
  refine ⟨p, wz, _, e2, e3, era_sub _ _, e4, rz, ry, fun u' x' hx => ?_⟩
  have hU : era (upd H p u') (W.M0 ++ ((Ma ++ p :: Mb) ++ M2)) = era H (W.M0 ++ ((Ma ++ p :: Mb) ++ M2)) := by
    funext b
    unfold era
    split
    · rfl
    · rename_i z
      rw [upd_ne]
      rintro rfl
      exact z (by simp)
  have nq : ∀ q ∈ Ma ++ Mb, q ≠ p := fun q hq z => by
    subst z
    have nd1 := (List.nodup_append.mp nd).1
    exact (List.nodup_cons.mp (List.perm_middle.nodup_iff.mp nd1)).1 hq
  have nq2 : ∀ q ∈ M2, q ≠ p := fun q hq z => by
    subst z
    exact (List.nodup_append.mp nd).2.2 q (by simp) q hq rfl
  refine ⟨fun b o n q => ?_, h1, fun q hq => ?_, Ma ++ p :: Mb, M2, fun q hq => ⟨(a q hq).1, ?_⟩, nd, ?_, ?_⟩
  · rw [upd_ne (by rintro rfl; rw [p0] at q; cases q)]; exact k1 b o n q
  · obtain ⟨z1, z2⟩ := pp q hq
    refine ⟨z1, ?_⟩
    obtain ⟨a1, b1, c1, z3, z4⟩ := z2
    refine ⟨a1, b1, c1, ?_, z4⟩
    rw [upd_ne (by rintro rfl; exact h1 _ z1 p0)]; exact z3
  · by_cases z : q = p
    · subst z; rw [upd_same]; exact fun z => by cases z
    · rw [upd_ne z]; exact (a q hq).2
  · rw [hU]
    exact f _ _ _ _ (Same.refl _) (fun q hq o e => by rw [upd_ne (nq q hq)]; exact e) upd_same hx
  · rw [hU]
    exact EnvOk.mono2 (Same.refl _) (fun q hq o e => by rw [upd_ne (nq2 q hq)]; exact e) c
theorem ow_dcT {K : PySem.W.Frag} {U : Hp} {p : Addr} {u : HO} {kvs : List (NestedKey × D)} (h : OwR K U p u (.dcT kvs)) : ∃ es, u = DcO TheW.w p es ∧ RpT K U es kvs := by
  cases h with
  | dcT r => exact ⟨_, rfl, r⟩
theorem ws_dputD (hi : env[i]? = some (.own (.dcT kvs))) (hl : kvs.length < sizeLine) (q : Wp W te n env fun y n1 => Wp W ty n1 env fun z n2 => ∃ k, keyT z = some k ∧ O.nx (env.set i (.own (.dcT (putT kvs k y)))) n2) : WpS W (sDPutD W.K (tVar i) ty te) n env O := fun σ stk vs H De w f =>
  q σ stk vs H _ w fun vy y n1 H1 q1 w1 => by
    obtain ⟨p, u, e1, e2, U, e3⟩ := w1.pop.ownO hi
    refine ⟨.ref p, e1, q1 σ _ _ H1 _ w1 fun vz z n2 H2 q2 w2 => ?_⟩
    obtain ⟨k, hk, qn⟩ := q2
    obtain ⟨ek, dk⟩ := keyT_inv hk
    obtain ⟨p', u', U', g2, g3, sm, g4, rz, ry, g⟩ := w2.ownPut2 hi
    rw [e1] at g2
    cases g2
    obtain ⟨qa, rfl⟩ := key_ref hk rz
    obtain ⟨es, rfl, r⟩ := ow_dcT g4
    exact ⟨p, qa, es, k, rfl, rfl, g3, r.keys.mono sm, ⟨dk, by rw [ek]; exact rz.mono sm⟩, by rw [r.len]; exact hl, f.nx _ _ _ n2 qn (g _ _ (.dcT (r.put dk (by rw [ek]; exact rz) ry)))⟩
def sDPutT (i : Nat) (ke ve : Ex) : Stx := ⟨fun K => sDPutD K (tVar i) (ke.te K) (ve.te K), fun env => (ownAt env[i]?).bind fun x => (dctT x).bind fun kvs => (ve.ev env).bind fun y => (ke.ev env).bind fun z => (keyT z).bind fun key => when (Nat.blt kvs.length 16777216) (some (.nx (env.set i (.own (.dcT (putT kvs key y)))))), two ve.nd ke.nd, fun {W n env fl O} k h q => by
  obtain ⟨x, h1, h⟩ := bind_inv h
  obtain ⟨kvs, h2, h⟩ := bind_inv h
  obtain ⟨y, h3, h⟩ := bind_inv h
  obtain ⟨z, h4, h⟩ := bind_inv h
  obtain ⟨key, h5, h⟩ := bind_inv h
  obtain ⟨h6, h⟩ := when_inv h
  cases h
  cases dctT_inv h2
  exact ws_dputD (ownAt_inv h1) (by rw [sizeLine_eq]; exact Nat.le_of_ble_eq_true h6) (ve.ok k.1 h3 (ke.ok k.2 h4 ⟨key, h5, q⟩))⟩
def qDPutT (i : Nat) (ke ve : QE) : QS := ⟨fun K => sDPutD K (tVar i) (ke.te K) (ve.te K), fun n env O => ∃ kvs, env[i]? = some (.own (.dcT kvs)) ∧ Nat.blt kvs.length 16777216 = true ∧ ve.wp n env fun y n1 => ke.wp n1 env fun z n2 => ∃ key, keyT z = some key ∧ O.nx (env.set i (.own (.dcT (putT kvs key y)))) n2, two ve.nd ke.nd, fun {W n env O} k h => by
  obtain ⟨kvs, h1, h2, h3⟩ := h
  exact ws_dputD h1 (by rw [sizeLine_eq]; exact Nat.le_of_ble_eq_true h2) ((ve.ok k.1 h3).mono fun y n1 h4 => ke.ok k.2 h4)⟩
end
end FR
namespace FR
open PySem PySem.Spec PyProof.Rows L2
variable [TheW]
/-! ## the keys of a locked dict -/
def ItkD (d : Addr) (o : Obj) (es : Es) : It :=
  ⟨fun i H => H d = some (.frz o (DcO TheW.w d es)) ∧ i < es.length, fun i H x H' => H' = H ∧ ∀ es' : Es, Rd H d (DcO TheW.w d es') → ∃ e, es'[i]? = some e ∧ x = .ref e.2.1, fun i H => H d = some (.frz o (DcO TheW.w d es)) ∧ es.length ≤ i⟩
section
variable {X : Cx} {pins : List (Addr × Obj)} {σ : L2.St} {H : Hp} {s : Shared} {d : Addr} {o : Obj}
theorem frzD {es : Es} (I : Inv X pins σ H s) (h : H d = some (.frz o (DcO TheW.w d es))) :
    (d == sysModules) = false ∧ s.heap.get? d = some o ∧ o.ExactDict ∧ ∃ (ents : Array DictEntry) (ep : Nat), o.data = .dict ents ep ∧ ents.size = es.length ∧ ∀ (i : Nat) e, es[i]? = some e → ∃ en : DictEntry, ents[i]? = some en ∧ en.key = .ref e.2.1 := by
  obtain ⟨hd, ⟨z, hs, nd, o', ents, ep, ho, hex, hda, pr⟩, _, _⟩ := I.hok d _ h
  rw [hd] at ho
  cases ho
  refine ⟨hs, hd, hex, ents, ep, hda, ?_, fun i e he => ?_⟩
  · rw [← Array.length_toList, Paired.length pr]
  · obtain ⟨b, hb, e1, e2, _⟩ := paired_get pr he
    exact ⟨b, by rw [← Array.getElem?_toList]; exact hb, e2⟩
end
section
variable {P : Program} {w : World} {K : PySem.W.Frag} {tg : Expr} {d : Addr} {o : Obj} {ents : Array DictEntry} {ep : Nat}
theorem turn_keysD {es : Es} (it : Addr) (hod : o.data = .dict ents ep) : Turn P w K tg (ItkD d o es) [it] it (fun i h => h.IsKeyIter it d i es.length ep) where
  mem := by simp
  obj := fun i h st b hb => by
    have e : b = it := by simpa using hb
    subst e
    obtain ⟨oi, e, c, dd⟩ := st
    exact ⟨oi, e, fun v z => by rw [dd] at z; cases z⟩
  keep := fun i h h' st k => st.at fun oi e => k it (by simp) oi e
  item := by
    intro X hP hw hK hc i pins s σ H E I hf st hg
    subst hP hw hK
    obtain ⟨hd, hi⟩ := hg
    obtain ⟨f0, f1, f2, f3, f4, f5⟩ := hf it (by simp)
    obtain ⟨hs, hgd, hx, es', ep', hdt, hsz, ent⟩ := frzD I hd
    obtain ⟨rfl, rfl⟩ := dict_ep hod hdt
    obtain ⟨e0, he0⟩ : ∃ p, es[i]? = some p := ⟨es[i], List.getElem?_eq_getElem hi⟩
    obtain ⟨en, hen, hkey⟩ := ent i e0 he0
    refine next_key_item st hgd hdt hsz hen fun h' st' sb => ?_
    have I1 : Inv X pins σ H { s with heap := h' } := I.turned (t' := s.toks) (fun b ob hb e => (sb.2 b hb).trans e) f0 f1 f3 f4 f5
    obtain ⟨oi, e, c, dd⟩ := id st'
    refine ⟨en.key, rfl, go_of (s := { s with heap := h' }) e c dd (by decide) ⟨.ref e0.2.1, H, I1, hkey, ⟨rfl, fun es2 r2 => ?_⟩, st', fun b hb => (hf b hb).1⟩⟩
    obtain ⟨⟨_, _, _, o2, ents2, ep2, ho2, _, hda2, pr2⟩, _, _⟩ := r2.ok I.hok
    rw [hgd] at ho2
    cases ho2
    obtain ⟨rfl, rfl⟩ := dict_ep hdt hda2
    have l2 : es2.length = es.length := by rw [Paired.length pr2, Array.length_toList, hsz]
    obtain ⟨e2, he2⟩ : ∃ p, es2[i]? = some p := ⟨es2[i], List.getElem?_eq_getElem (by omega)⟩
    obtain ⟨b2, hb2, _, e3, _⟩ := paired_get pr2 he2
    rw [Array.getElem?_toList, hen] at hb2
    cases hb2
    rw [hkey] at e3
    exact ⟨e2, he2, by rw [Value.ref.inj e3]⟩
  done := by
    intro X hP hw hK hc i pins s σ H E I hf st hg
    subst hP hw hK
    obtain ⟨hd, hi⟩ := hg
    obtain ⟨f0, f1, f2, f3, f4, f5⟩ := hf it (by simp)
    obtain ⟨hs, hgd, hx, es', ep', hdt, hsz, ent⟩ := frzD I hd
    obtain ⟨rfl, rfl⟩ := dict_ep hod hdt
    exact next_key_end (I.ok.hd hc) st hgd hdt hsz hi fun h' eb => ⟨rfl, I.turned (t' := s.toks) (fun b ob hb e => eb b ob hb e) f0 f1 f3 f4 f5⟩
  self := fun A i s Q E st h => by
    refine wpAny_pyIter_slot st.typeIs F.slot_dict_keyiterator_iter (wpAny_call_entry F.slot_dict_keyiterator_iter st.typeIs F.entry_dict_keyiterator_iter ?_ (F.args_dict_keyiterator_iter_1 _))
    show wpAny _ _ (ret (.ref it)) _ _ s
    exact wpAny_pure ⟨_, rfl, "dict_keyiterator", _, st.typeIs, F.slot_dict_keyiterator_next.lookup, h⟩
end
/-- the dict is locked -/
def iKeysD (td : TE) : TI := fun σ H R => td σ H fun x H1 => ∃ d o es, x = .ref d ∧ H1 d = some (.frz o (DcO TheW.w d es)) ∧ R (ItkD d o es) H1
section
variable {X : Cx} {tg e : Expr} {td : TE}
theorem pi_keysD (he : PE X e td) : PI X tg e (iKeysD td) := by
  refine ⟨fun pins s σ H R I h => ?_⟩
  refine thn (he.run pins s σ H _ I h) fun u s1 ⟨x, H1, I1, rx, d, o, es, ex, hd, q⟩ => ?_
  subst ex
  obtain rfl : u = Value.ref d := rx
  obtain ⟨hs, hgd, hx, ents, ep, hdt, hsz, ent⟩ := frzD I1 hd
  refine iter_keys hs hgd hx hdt (pi_one (tk := s1.toks) I1 _ (turn_keysD _ hdt) ⟨_, Heap.get?_push_size _ rfl, rfl, ?_⟩ q)
  rw [hsz] <;> rfl
end
/-! ## locking -/
structure Relk (U U' : Hp) : Prop where
  lst : ∀ {a : Addr} {xs : List V}, U a = some (.lst xs) → U' a = some (.lst xs)
  pt : ∀ {a : Addr} {xs : List V}, PT U a xs → PT U' a xs
  rt : ∀ {a : Addr} {xs : List V}, Rd U a (.tup xs) → Rd U' a (.tup xs)
  sq : ∀ {K : PySem.W.Frag} {a : Addr} {xs : List V}, SqL K U a xs → SqL K U' a xs
  dk : ∀ {a : Addr} {kvs : List (Key × V)}, Rd U a (.dK kvs) → Rd U' a (.dK kvs)
  dc : ∀ {a : Addr} {es : Es}, Rd U a (DcO TheW.w a es) → Rd U' a (DcO TheW.w a es)
  ins : ∀ {a C dx : Addr} {fs : List (Str × V)}, U a = some (.ins C dx fs) → U' a = some (.ins C dx fs)
mutual
theorem Rp.relk {K : PySem.W.Frag} {H H' : Hp} (e : Relk H H') : ∀ {v : V} {d : D}, Rp K H v d → Rp K H' v d
  | _, _, .non => .non
  | _, _, .bl b => .bl b
  | _, _, .int b => .int b
  | _, _, .str b => .str b
  | _, _, .ty b => .ty b
  | _, _, .lst h r => .lst (e.lst h) (RpL.relk e r)
  | _, _, .tup h r => .tup (e.pt h) (RpL.relk e r)
  | _, _, .tpk h r => .tpk (e.rt h) (RpL.relk e r)
  | _, _, .lsq h r => .lsq (e.sq h) (RpL.relk e r)
  | _, _, .dct h r => .dct (e.dk h) (RpK.relk e r)
  | _, _, .dcT h r => .dcT (e.dc h) (RpT.relk e r)
  | _, _, .ins h r => .ins (e.ins h) (RpF.relk e r)
theorem RpL.relk {K : PySem.W.Frag} {H H' : Hp} (e : Relk H H') : ∀ {v : List V} {d : List D}, RpL K H v d → RpL K H' v d
  | _, _, .nil => .nil
  | _, _, .cons a b => .cons (Rp.relk e a) (RpL.relk e b)
theorem RpK.relk {K : PySem.W.Frag} {H H' : Hp} (e : Relk H H') : ∀ {v : List (Key × V)} {d : List (Key × D)}, RpK K H v d → RpK K H' v d
  | _, _, .nil => .nil
  | _, _, .cons a b => .cons (Rp.relk e a) (RpK.relk e b)
theorem RpT.relk {K : PySem.W.Frag} {H H' : Hp} (e : Relk H H') : ∀ {v : List (NestedKey × Addr × V)} {d : List (NestedKey × D)}, RpT K H v d → RpT K H' v d
  | _, _, .nil => .nil
  | _, _, .cons z c a b => .cons z (Rp.relk e c) (Rp.relk e a) (RpT.relk e b)
theorem RpF.relk {K : PySem.W.Frag} {H H' : Hp} (e : Relk H H') : ∀ {v : List (Str × V)} {d : List (Str × D)}, RpF K H v d → RpF K H' v d
  | _, _, .nil => .nil
  | _, _, .cons a b => .cons (Rp.relk e a) (RpF.relk e b)
end
theorem OwR.relk {K : PySem.W.Frag} {U U' : Hp} {o : HO} {x : D} {p : Addr} (e : Relk U U') : OwR K U p o x → OwR K U' p o x
  | .lst h => .lst (h.relk e)
  | .dct h => .dct (h.relk e)
  | .dcT h => .dcT (h.relk e)
  | .ins h => .ins (h.relk e)
theorem EnvOk.relk {W W' : Wo} {U U' H H' : Hp} (hK : W'.K = W.K) (hP : W'.P = W.P) (eu : Relk U U') : ∀ {env : List E} {σ : L2.St} {M : List Addr}, (∀ p ∈ M, ∀ o, H p = some o → H' p = some o) → EnvOk W U H env σ M → EnvOk W' U' H' env σ M
  | [], [], [], _, _ => trivial
  | [], [], _ :: _, _, h => h.elim
  | [], _ :: _, _, _, h => h.elim
  | .any :: es, [], _, _, h => h.elim
  | .any :: es, _ :: σ, M, eh, h => EnvOk.relk (env := es) (σ := σ) hK hP eu eh h
  | .d x :: es, [], _, _, h => h.elim
  | .d x :: es, o :: σ, M, eh, h => ⟨by obtain ⟨v, e, r⟩ := h.1; exact ⟨v, e, by rw [hK]; exact r.relk eu⟩, EnvOk.relk (env := es) (σ := σ) hK hP eu eh h.2⟩
  | .own xs :: es, [], _, _, h => h.elim
  | .own xs :: es, _ :: _, [], _, h => h.elim
  | .own xs :: es, o :: σ, p :: M, eh, h => ⟨by obtain ⟨vs, e, q, r⟩ := h.1; exact ⟨vs, e, eh p List.mem_cons_self _ q, by rw [hK]; exact r.relk eu⟩, EnvOk.relk (env := es) (σ := σ) hK hP eu (fun q hq => eh q (List.mem_cons_of_mem _ hq)) h.2⟩
  | .pot :: es, [], _, _, h => h.elim
  | .pot :: es, o :: σ, M, eh, h => ⟨by rw [hP]; exact h.1, EnvOk.relk (env := es) (σ := σ) hK hP eu eh h.2⟩
theorem dc_rd_same {U U' : Hp} {a b : Addr} {es es' : Es} (h1 : Rd U a (DcO TheW.w a es)) (h2 : Rd U' a (DcO TheW.w a es)) (h : Rd U a (DcO TheW.w a es')) : Rd U' a (DcO TheW.w a es') := by
  have e : DcO TheW.w a es = DcO TheW.w a es' := by
    rcases h1 with h1 | ⟨o, h1⟩
    · rcases h with h | ⟨o', h⟩
      · rw [h1] at h; exact Option.some.inj h
      · rw [h1] at h; unfold DcO at h; cases h
    · rcases h with h | ⟨o', h⟩
      · rw [h1] at h; unfold DcO at h; cases h
      · rw [h1] at h
        have := Option.some.inj h
        injection this
  rw [← e]
  exact h2
theorem relk_of {U U' : Hp} {a : Addr} {es : Es} (h1 : Rd U a (DcO TheW.w a es)) (h2 : Rd U' a (DcO TheW.w a es)) (hb : ∀ b, b ≠ a → U' b = U b) : Relk U U' := by
  have no : ∀ {b : Addr} {u : HO}, Rd U b u → (∀ φ, u ≠ .ext φ) → (∀ o v, u ≠ .frz o v) → b ≠ a := by
    rintro b u h hu hf rfl
    rcases h1 with h1 | ⟨o, h1⟩
    · rcases h with h | ⟨o', h⟩
      · rw [h1] at h; exact hu _ (Option.some.inj h).symm
      · rw [h1] at h; unfold DcO at h; cases h
    · rcases h with h | ⟨o', h⟩
      · rw [h1] at h; exact hf _ _ (Option.some.inj h).symm
      · rw [h1] at h
        have := Option.some.inj h
        injection this with _ q
        exact hu _ q.symm
  have mv : ∀ {b : Addr} {u : HO}, Rd U b u → (∀ φ, u ≠ .ext φ) → (∀ o v, u ≠ .frz o v) → Rd U' b u := fun {b u} h p q => by
    have nb := no h p q
    rcases h with h | ⟨o, h⟩
    · exact .inl (by rw [hb _ nb]; exact h)
    · exact .inr ⟨o, by rw [hb _ nb]; exact h⟩
  refine ⟨fun {b xs} h => ?_, fun {b xs} h => ?_, fun {b xs} h => mv h (fun _ z => by cases z) (fun _ _ z => by cases z), fun {K b xs} h => ?_, fun {b kvs} h => mv h (fun _ z => by cases z) (fun _ _ z => by cases z), fun {b es'} h => ?_, fun {b C dx fs} h => ?_⟩
  · rw [hb _ (no (.inl h) (fun _ z => by cases z) (fun _ _ z => by cases z))]; exact h
  · obtain ⟨o, h3, h4⟩ := h
    exact ⟨o, by rw [hb _ (no (.inr ⟨o, h3⟩) (fun _ z => by cases z) (fun _ _ z => by cases z))]; exact h3, h4⟩
  · rcases h with h | h
    · exact .inl (mv h (fun _ z => by cases z) (fun _ _ z => by cases z))
    · exact .inr h
  · by_cases z : b = a
    · subst z
      exact dc_rd_same (b := b) h1 h2 h
    · rcases h with h | ⟨o, h⟩
      · exact .inl (by rw [hb _ z]; exact h)
      · exact .inr ⟨o, by rw [hb _ z]; exact h⟩
  · rw [hb _ (no (.inl h) (fun _ z => by cases z) (fun _ _ z => by cases z))]; exact h
/-- the world that holds a thing fast -/
def pinW (W : Wo) (a : Addr) (u : HO) : Wo := { W with H0 := fun b => if b = a then some u else W.H0 b }
theorem pinW_at (W : Wo) (a : Addr) (u : HO) : (pinW W a u).H0 a = some u := by
  show (if a = a then some u else W.H0 a) = some u
  rw [if_pos rfl]
theorem pinW_ne {W : Wo} {a b : Addr} {u : HO} (h : b ≠ a) : (pinW W a u).H0 b = W.H0 b := by
  show (if b = a then some u else W.H0 b) = W.H0 b
  rw [if_neg h]
section
variable {W : Wo} {n i : Nat} {env stk : List E} {σ vs : L2.St} {H : Hp} {kvs : List (NestedKey × D)}
theorem era_in {H : Hp} {M : List Addr} {b : Addr} (h : b ∉ M) : era H M b = H b := by unfold era; rw [if_neg h]
theorem era_out {H : Hp} {M : List Addr} {b : Addr} (h : b ∈ M) : era H M b = none := by unfold era; rw [if_pos h]
/-- the dict of a name, locked -/
theorem Wd.lockD (w : Wd W n env σ stk vs H) (hi : env[i]? = some (.d (.dcT kvs))) : ∃ a es, σ[i]? = some (some (.ref a)) ∧ a ∉ W.M0 ∧ Rd H a (DcO TheW.w a es) ∧ RpT W.K H es kvs ∧
    ∀ (H1 : Hp) (o : Obj), H1 a = some (.frz o (DcO TheW.w a es)) → (∀ b, b ≠ a → H1 b = H b) → Wd (pinW W a (.frz o (DcO TheW.w a es))) n env σ stk vs H1 := by
  obtain ⟨k1, h1, pp, M1, M2, a0, nd, b, c⟩ := w
  obtain ⟨v, e, r⟩ := b.getD hi
  cases r with
  | @dcT a es _ ha hr =>
    have na : a ∉ W.M0 ++ (M1 ++ M2) := fun z => by
      have := era_out (H := H) z
      rcases ha with ha | ⟨o, ha⟩
      · rw [this] at ha; cases ha
      · rw [this] at ha; cases ha
    have naM : a ∉ W.M0 := fun z => na (List.mem_append_left _ z)
    have sm := era_sub H (W.M0 ++ (M1 ++ M2))
    refine ⟨a, es, e, naM, same_rd sm ha, hr.mono sm, fun H1 o e1 e2 => ?_⟩
    have ne : ∀ p ∈ M1 ++ M2, p ≠ a := fun p hp z => na (List.mem_append_right _ (z ▸ hp))
    have hP : W.P ≠ some a := fun z => naM (pp a z).1
    have rk : Relk (era H (W.M0 ++ (M1 ++ M2))) (era H1 (W.M0 ++ (M1 ++ M2))) := relk_of ha (.inr ⟨o, by rw [era_in na]; exact e1⟩) fun b hb => by
      by_cases z : b ∈ W.M0 ++ (M1 ++ M2)
      · rw [era_out z, era_out z]
      · rw [era_in z, era_in z, e2 b hb]
    refine ⟨fun b o' hp hq => ?_, fun p hp => ?_, fun p hp => ?_, M1, M2, fun p hp => ?_, nd, EnvOk.relk (W := W) (W' := pinW W a (.frz o (DcO TheW.w a es))) rfl rfl rk (fun p hp o' e' => ?_) b, EnvOk.relk (W := W) (W' := pinW W a (.frz o (DcO TheW.w a es))) rfl rfl rk (fun p hp o' e' => ?_) c⟩
    · by_cases z : b = a
      · subst z
        rw [pinW_at] at hq
        rw [e1]; exact hq
      · rw [pinW_ne z] at hq
        rw [e2 b z]
        exact k1 b o' hp hq
    · have hp' : p ∈ W.M0 := hp
      rw [pinW_ne (show p ≠ a from fun z => naM (by rw [← z]; exact hp'))]
      exact h1 p hp
    · obtain ⟨z1, a1, b1, c1, z3, z4⟩ := pp p hp
      exact ⟨z1, a1, b1, c1, by rw [e2 p (fun z => naM (z ▸ z1))]; exact z3, z4⟩
    · rw [pinW_ne (ne p hp), e2 p (ne p hp)]
      exact a0 p hp
    · rw [e2 p (ne p (List.mem_append_left _ hp))]; exact e'
    · rw [e2 p (ne p (List.mem_append_right _ hp))]; exact e'
/-- unlocked again -/
theorem Wd.unlockD {a : Addr} {o : Obj} {es : Es} (w : Wd (pinW W a (.frz o (DcO TheW.w a es))) n env σ stk vs H) (na : a ∉ W.M0) {H1 : Hp} (h0 : ∀ u, W.H0 a = some u → H1 a = some u) (h1 : Rd H1 a (DcO TheW.w a es)) (h2 : ∀ b, b ≠ a → H1 b = H b) : Wd W n env σ stk vs H1 := by
  have hA : H a = some (.frz o (DcO TheW.w a es)) := w.keep a _ (fun z => na (w.pot a z).1) (pinW_at _ _ _)
  obtain ⟨k1, hh, pp, M1, M2, a0, nd, b, c⟩ := w
  have ne : ∀ p ∈ M1 ++ M2, p ≠ a := fun p hp z => by
    have := (a0 p hp).1
    rw [z, pinW_at] at this
    cases this
  have naA : a ∉ W.M0 ++ (M1 ++ M2) := fun z => by
    rcases List.mem_append.mp z with z | z
    · exact na z
    · exact ne a z rfl
  have rk : Relk (era H (W.M0 ++ (M1 ++ M2))) (era H1 (W.M0 ++ (M1 ++ M2))) := relk_of (es := es) (.inr ⟨o, by rw [era_in naA]; exact hA⟩) (by
    rcases h1 with h1 | ⟨o', h1⟩
    · exact .inl (by rw [era_in naA]; exact h1)
    · exact .inr ⟨o', by rw [era_in naA]; exact h1⟩) fun b hb => by
    by_cases z : b ∈ W.M0 ++ (M1 ++ M2)
    · rw [era_out z, era_out z]
    · rw [era_in z, era_in z, h2 b hb]
  refine ⟨fun b o' hp hq => ?_, fun p hp => ?_, fun p hp => ?_, M1, M2, fun p hp => ?_, nd, EnvOk.relk (W := pinW W a (.frz o (DcO TheW.w a es))) (W' := W) rfl rfl rk (fun p hp o' e' => ?_) b, EnvOk.relk (W := pinW W a (.frz o (DcO TheW.w a es))) (W' := W) rfl rfl rk (fun p hp o' e' => ?_) c⟩
  · by_cases z : b = a
    · subst z
      exact h0 o' hq
    · rw [h2 b z]
      exact k1 b o' hp (by rw [pinW_ne z]; exact hq)
  · have hp' : p ∈ W.M0 := hp
    have := hh p hp
    rw [pinW_ne (fun z => na (by rw [← z]; exact hp'))] at this
    exact this
  · obtain ⟨z1, a1, b1, c1, z3, z4⟩ := pp p hp
    exact ⟨z1, a1, b1, c1, by rw [h2 p (fun z => na (z ▸ z1))]; exact z3, z4⟩
  · have := a0 p hp
    rw [pinW_ne (ne p hp)] at this
    rw [h2 p (ne p hp)]
    exact this
  · rw [h2 p (ne p (List.mem_append_left _ hp))]; exact e'
  · rw [h2 p (ne p (List.mem_append_right _ hp))]; exact e'
end
theorem RpT.get {K : PySem.W.Frag} {U : Hp} : ∀ {es : Es} {ds : List (NestedKey × D)} {i : Nat} {e : NestedKey × Addr × V}, RpT K U es ds → es[i]? = some e → ∃ kv, ds[i]? = some kv ∧ kv.1 = e.1 ∧ Rp K U (.ref e.2.1) (nkD e.1)
  | _, _, _, _, .nil, h => by cases h
  | _, _, 0, e, .cons z c a b, h => by
    rw [List.getElem?_cons_zero, Option.some.injEq] at h
    subst h
    exact ⟨_, rfl, rfl, c⟩
  | _, _, i + 1, e, .cons z c a b, h => by
    rw [List.getElem?_cons_succ] at h
    obtain ⟨kv, h1, h2⟩ := RpT.get b h
    exact ⟨kv, by rw [List.getElem?_cons_succ]; exact h1, h2⟩
/-- the keys of a dict that the world holds fast -/
theorem wi_keysD {W : Wo} {n i : Nat} {env : List E} {kvs : List (NestedKey × D)} {Φ : List D → Nat → Prop} {a : Addr} {o : Obj} {es : Es} (hP : W.P ≠ some a) (h0 : W.H0 a = some (.frz o (DcO TheW.w a es))) (le : es.length = kvs.length) (hi : env[i]? = some (.d (.dcT kvs))) {σ : L2.St} (e : σ[i]? = some (some (.ref a))) {stk : List E} {vs : L2.St} {H : Hp} {R : It → Hp → Prop} (w : Wd W n env σ stk vs H)
    (k : ∀ J ds n' H' stk2 vs2, ds = kvs.map (fun kv => nkD kv.1) → n' = n → vs2.length = stk2.length → Wd W n' env σ (stk2.map E.d ++ stk) (vs2.map some ++ vs) H' → ItN W J ds stk2 vs2 → R J H') : iKeysD (tVar i) σ H R := by
  have hA : H a = some (.frz o (DcO TheW.w a es)) := w.keep a _ hP h0
  refine ⟨.ref a, e, a, o, es, rfl, hA, k _ (kvs.map fun kv => nkD kv.1) n H [.dcT kvs] [.ref a] rfl rfl rfl ?_ ⟨?_⟩⟩
  · obtain ⟨k1, h1, pp, M1, M2, a0, nd, b, c⟩ := w
    obtain ⟨v, e2, r⟩ := b.getD hi
    rw [e] at e2
    cases e2
    exact ⟨k1, h1, pp, M1, M2, a0, nd, b, ⟨_, rfl, r⟩, c⟩
  · rw [List.length_map]
    refine ⟨fun H => H a = some (.frz o (DcO TheW.w a es)), (ItkD a o es).yld, ⟨fun i H hi g => ⟨g, by omega⟩, fun H g => ⟨g, by omega⟩, fun _ _ _ _ _ _ y => y⟩, fun H _ kp => kp a _ hP h0, ?_⟩
    rintro i H x H' hi rl kp ⟨rfl, y⟩
    refine ⟨nkD (kvs[i]).1, by rw [List.getElem?_map, List.getElem?_eq_getElem hi]; rfl, Same.refl _, fun M hM rl2 => ?_⟩
    cases rl2 with
    | cons r _ =>
      cases r with
      | @dcT _ es' _ ha hr =>
        obtain ⟨e', h1, rfl⟩ := y es' (same_rd (era_sub _ _) ha)
        obtain ⟨kv, h2, h3, h4⟩ := hr.get h1
        rw [List.getElem?_eq_getElem hi, Option.some.injEq] at h2
        rw [h2, h3]
        exact h4
end FR
namespace FR
open PySem PySem.Spec PyProof.Rows L2
variable [TheW]
/-! ## comprehensions over the keys of a dict -/
theorem wp_lcE {W : Wo} {n : Nat} {env : List E} {wi : TI} {ds ys : List D} (g : Tgx) (t : Ts) (e : Ex) (sl : List Nat) (hL : (g.L.all fun i => sl.elem i) = true) (kt : t.nd W.K) (ke : e.nd W.K) (h2 : szOk ds.length = true) (h3 : goLc g t e (wipeE (env.map hideE) sl) ds = some ys)
    (hw : ∀ Φ : List D → Nat → Prop, Φ ds n → WpI W wi n env Φ) : Wp W (tLc wi (g.tg W.K) (t.tt W.K) (e.te W.K) sl) n env fun d m => d = .lst ys ∧ m = n := by
  have hL' : ∀ i ∈ g.L, i ∈ sl := fun i hi => by
    have := List.all_eq_true.mp hL i hi
    simpa using this
  refine wp_lc (L := g.L) hL' (hw _ ⟨fun i acc m => m = n ∧ ∃ rest, goLc g t e (wipeE (env.map hideE) sl) (ds.drop i) = some rest ∧ acc ++ rest = ys, ⟨rfl, ys, h3, rfl⟩, szOk_le h2, ?_, ?_⟩)
  · rintro i d acc m hd ⟨rfl, rest, hr, rfl⟩
    have hlt := (List.getElem?_eq_some_iff.mp hd).1
    have e1 : ds.drop i = d :: ds.drop (i + 1) := by
      rw [List.drop_eq_getElem_cons hlt]
      congr 1
      exact (List.getElem?_eq_some_iff.mp hd).2
    rw [e1] at hr
    obtain ⟨env2, h4, hr⟩ := bind_inv hr
    obtain ⟨b, h5, hr⟩ := bind_inv hr
    refine g.ok h4 (t.ok kt h5 ?_)
    cases b with
    | true =>
      obtain ⟨y, h6, hr⟩ := bind_inv hr
      obtain ⟨ys2, h7, hr⟩ := bind_inv hr
      cases hr
      exact e.ok ke h6 ⟨rfl, ys2, h7, by simp⟩
    | false => exact ⟨rfl, rest, hr, rfl⟩
  · rintro acc m ⟨rfl, rest, hr, rfl⟩ _
    rw [List.drop_length] at hr
    cases hr
    exact ⟨by simp, rfl⟩
def xLcK (i : Nat) (g : Tgx) (t : Ts) (e : Ex) (sl : List Nat) (hL : (g.L.all fun i => sl.elem i) = true) : Ex := ⟨fun K => tLocks (tLc (iKeysD (tVar i)) (g.tg K) (t.tt K) (e.te K) sl),
  fun env => (atEnv env[i]?).bind fun x => (dctT x).bind fun kvs => when (szOk kvs.length) ((goLc g t e (wipeE (env.map hideE) sl) (kvs.map fun kv => nkD kv.1)).bind fun ys => some (.lst ys)), two t.nd e.nd, fun {W n env d Φ} k h q σ stk vs H Q w kk => by
  obtain ⟨x, h1, g1⟩ := bind_inv h
  obtain ⟨kvs, h2, g2⟩ := bind_inv g1
  obtain ⟨h3, g3⟩ := when_inv g2
  obtain ⟨ys, h4, g4⟩ := bind_inv g3
  cases g4
  cases dctT_inv h2
  have hi : env[i]? = some (.d (.dcT kvs)) := atEnv_inv h1
  obtain ⟨a, es, e1, na, hr, rt, lk⟩ := w.lockD hi
  have hP : W.P ≠ some a := fun z => na (w.pot a z).1
  have main : ∀ (o : Obj) (H1 : Hp), H1 a = some (.frz o (DcO TheW.w a es)) → (∀ b, b ≠ a → H1 b = H b) → ∀ Q1 : VK, (∀ v H', Wd (pinW W a (.frz o (DcO TheW.w a es))) n env σ (.d (.lst ys) :: stk) (some v :: vs) H' → Q1 v H') →
      tLc (iKeysD (tVar i)) (g.tg W.K) (t.tt W.K) (e.te W.K) sl σ H1 Q1 := fun o H1 e2 e3 Q1 q1 => by
    have w1 := lk H1 o e2 e3
    have wl := wp_lcE (W := pinW W a (.frz o (DcO TheW.w a es))) (n := n) (env := env) (wi := fun σ H R => σ[i]? = some (some (.ref a)) → iKeysD (tVar i) σ H R) (ds := kvs.map fun kv => nkD kv.1) (ys := ys) g t e sl hL k.1 k.2 (by rw [List.length_map]; exact h3) h4
      (fun Ψ hΨ σ stk vs H R w' k' e' => wi_keysD (Φ := fun _ _ => True) (W := pinW W a (.frz o (DcO TheW.w a es))) hP (pinW_at _ _ _) rt.len hi e' w' fun J ds n' H' stk2 vs2 a1 a2 a3 a4 a5 => by
        subst a1 a2
        exact k' J _ _ H' stk2 vs2 hΨ a3 a4 a5)
    exact wl σ stk vs H1 Q1 w1 (fun v d n' H' hd w' => by
      obtain ⟨rfl, rfl⟩ := hd
      exact q1 v H' w') e1
  rcases hr with hr | ⟨o, hr⟩
  · refine ⟨[a], _, hr, trivial, fun od => main od _ upd_same (fun b hb => upd_ne hb) _ fun v H' w' => ?_⟩
    have hA : H' a = some (.frz od (DcO TheW.w a es)) := w'.keep a _ hP (pinW_at _ _ _)
    refine ⟨hA, kk _ _ n _ q (w'.unlockD na (fun u hu => ?_) (.inl upd_same) fun b hb => upd_ne hb)⟩
    have := w.keep a u hP hu
    rw [hr] at this
    rw [upd_same]
    exact this
  · refine ⟨[], main o H hr (fun _ _ => rfl) Q fun v H' w' => ?_⟩
    have hA : H' a = some (.frz o (DcO TheW.w a es)) := w'.keep a _ hP (pinW_at _ _ _)
    refine kk _ _ n _ q (w'.unlockD na (fun u hu => ?_) (.inr ⟨o, hA⟩) fun b hb => rfl)
    have := w.keep a u hP hu
    rw [hr] at this
    rw [hA]
    exact this⟩
theorem te_xDGetT (a b : Ex) (K : PySem.W.Frag) : (xDGetT a b).te K = tDGetD K (a.te K) (b.te K) := rfl
theorem te_fDNewT (K : PySem.W.Frag) : fDNewT.te K = tDNewD := rfl
theorem te_sDPutT (i : Nat) (ke ve : Ex) (K : PySem.W.Frag) : (sDPutT i ke ve).ts K = sDPutD K (tVar i) (ke.te K) (ve.te K) := rfl
theorem te_qDPutT (i : Nat) (ke ve : QE) (K : PySem.W.Frag) : (qDPutT i ke ve).ts K = sDPutD K (tVar i) (ke.te K) (ve.te K) := rfl
theorem te_xLcK (i : Nat) (g : Tgx) (t : Ts) (e : Ex) (sl : List Nat) (hL : (g.L.all fun i => sl.elem i) = true) (K : PySem.W.Frag) : (xLcK i g t e sl hL).te K = tLocks (tLc (iKeysD (tVar i)) (g.tg K) (t.tt K) (e.te K) sl) := rfl
theorem ev_xDGetT (a b : Ex) (env : List E) : (xDGetT a b).ev env = ((a.ev env).bind fun x => (dctT x).bind fun kvs => (b.ev env).bind fun y => (keyT y).bind fun k => valT kvs k) := rfl
theorem ev_fDNewT (env : List E) : fDNewT.ev env = some (.dcT []) := rfl
theorem ev_sDPutT (i : Nat) (ke ve : Ex) (env : List E) : (sDPutT i ke ve).ev env = ((ownAt env[i]?).bind fun x => (dctT x).bind fun kvs => (ve.ev env).bind fun y => (ke.ev env).bind fun z => (keyT z).bind fun key => when (Nat.blt kvs.length 16777216) (some (.nx (env.set i (.own (.dcT (putT kvs key y))))))) := rfl
theorem wp_qDPutT (i : Nat) (ke ve : QE) (n : Nat) (env : List E) (O : Out) : (qDPutT i ke ve).wp n env O = (∃ kvs, env[i]? = some (.own (.dcT kvs)) ∧ Nat.blt kvs.length 16777216 = true ∧ ve.wp n env fun y n1 => ke.wp n1 env fun z n2 => ∃ key, keyT z = some key ∧ O.nx (env.set i (.own (.dcT (putT kvs key y)))) n2) := rfl
theorem ev_xLcK (i : Nat) (g : Tgx) (t : Ts) (e : Ex) (sl : List Nat) (hL : (g.L.all fun i => sl.elem i) = true) (env : List E) : (xLcK i g t e sl hL).ev env = ((atEnv env[i]?).bind fun x => (dctT x).bind fun kvs => when (szOk kvs.length) ((goLc g t e (wipeE (env.map hideE) sl) (kvs.map fun kv => nkD kv.1)).bind fun ys => some (.lst ys))) := rfl
end FR
namespace FR
open PySem PySem.Spec PyProof.Rows L2
variable [TheW]
/-! ## < of tuples of data -/
def rLtP (K : PySem.W.Frag) : R2 := fun x y H Q => ∃ d e, Dp K H x d ∧ Dp K H y e ∧ PySem.W.alike d e = true ∧ d ≠ .none ∧ d.depth ≤ 64 ∧ Q (.bl (PySem.W.dataLt d e)) H
section
variable {X : Cx} {K : PySem.W.Frag}
theorem k_ltP (hK : X.K = K) (hu : X.A.units + 64 < cLine) : OpR X (compareOp .Lt) (rLtP K) := by
  subst hK
  intro pins s σ H x y v u Q I rx ry h
  obtain ⟨d, e, hd, he, al, nn, dp, q⟩ := h
  obtain ⟨as, r1⟩ := Dp.reads I d x v hd rx
  obtain ⟨bs, r2⟩ := Dp.reads I e y u he ry
  show wpAny _ _ (richCompare .Lt v u) _ _ s
  exact PySem.W.rcLt_alike d e X.A s v u as bs r1 r2 al nn (by omega) _ _ _ _ ⟨.bl _, H, I, rfl, q⟩
end
def isNonP : PyData → Bool
  | .none => true
  | _ => false
def okLt (x y : D) : Bool := noDct x && noDct y && PySem.W.alike (py x) (py y) && !isNonP (py x) && Nat.ble (py x).depth 64
def mLtT : Sem2 := ⟨fun K => rLtP K, fun x y => when (okLt x y) (some (.bl (PySem.W.dataLt (py x) (py y)))), fun {W n x y d Φ} h q => by
  obtain ⟨h1, h2⟩ := when_inv h
  cases h2
  unfold okLt at h1
  simp only [Bool.and_eq_true] at h1
  obtain ⟨⟨⟨⟨a, b⟩, c⟩, e⟩, f⟩ := h1
  have nn : py x ≠ .none := fun z => by rw [z] at e; cases e
  exact op2_pure (fun vx vy H Q h1 h2 k => ⟨_, _, h1.dp a, h2.dp b, c, nn, Nat.le_of_ble_eq_true f, k⟩) (fun _ _ => .bl _) q⟩
def mLtX : Sem2 := mLt.or mLtT
section
variable {X : Cx} {K : PySem.W.Frag}
theorem r_ltX (hK : X.K = K) (hu : X.A.units + 64 < cLine) : OpR X (compareOp .Lt) (mLtX.r K) := r_lt.or (k_ltP hK hu)
end
/-! ## slices whose bounds may be None -/
def tPartO (t : TE) : TO := fun σ H Q => t σ H fun x H1 => (x = .non ∧ Q none H1) ∨ ∃ i, x = .int i ∧ Q (some i) H1
theorem po_opt {X : Cx} {e : Expr} {te : TE} (h : PE X e te) : PO X (some e) (tPartO te) := by
  refine ⟨fun pins s σ H Q I hw => ?_⟩
  rw [evalPart_some]
  refine thn (h.run pins s σ H _ I hw) fun u s1 ⟨x, H1, I1, r1, q1⟩ => ?_
  rcases q1 with ⟨rfl, q⟩ | ⟨i, rfl, q⟩
  · cases r1
    exact ⟨none, H1, I1, .none, q⟩
  · obtain ⟨t, rfl⟩ := r1
    exact ⟨some i, H1, I1, .int i t, q⟩
def ioOf : D → Option (Option Int)
  | .non => some none
  | .int i => some (some i)
  | _ => none
def poOpt (e : Ex) : Po := ⟨fun K => tPartO (e.te K), fun env => (e.ev env).bind ioOf, e.nd, fun {W n env o Φ} k h q σ stk vs H Q w kk => by
  obtain ⟨x, h1, h2⟩ := bind_inv h
  refine e.ok (Φ := fun d m => d = x ∧ m = n) k h1 ⟨rfl, rfl⟩ σ stk vs H _ w fun v d n' H' e1 w' => ?_
  obtain ⟨rfl, rfl⟩ := e1
  have t := w'.top
  cases d with
  | non => cases h2; cases t; exact .inl ⟨rfl, kk _ _ _ q w'.pop⟩
  | int i => cases h2; cases t; exact .inr ⟨_, rfl, kk _ _ _ q w'.pop⟩
  | _ => cases h2⟩
theorem to_poOpt (e : Ex) (K : PySem.W.Frag) : (poOpt e).to K = tPartO (e.te K) := rfl
theorem ev_poOpt (e : Ex) (env : List E) : (poOpt e).ev env = ((e.ev env).bind ioOf) := rfl
theorem sem_ltX (i j : Int) : mLtX.f (.int i) (.int j) = some (.bl (decide (i < j))) := rfl
theorem sem_ltXS (i j : Str) : mLtX.f (.str i) (.str j) = some (.bl (ltB i j)) := rfl
end FR
namespace FR
open PySem PySem.Spec PyProof.Rows L2
variable [TheW]
/-! ## defs with defaults and names that may be left out -/
/-- where a parameter's value comes from: a place, a name's place, a default -/
inductive Pl where
  | p (i : Nat) | k (j : Nat) | mi (j : Nat) (i : Int) | mn (j : Nat)
def Pl.v (vs zs : List V) : Pl → V
  | .p i => vs.getD i .non
  | .k j => zs.getD j .non
  | .mi _ i => .int i
  | .mn _ => .non
def Pl.d (vs zs : List D) : Pl → D
  | .p i => vs.getD i .non
  | .k j => zs.getD j .non
  | .mi _ i => .int i
  | .mn _ => .non
def Pl.u (us ws dl : List Value) : Pl → Value
  | .p i => us.getD i .none
  | .k j => ws.getD j .none
  | .mi j _ => dl.getD j .none
  | .mn j => dl.getD j .none
/-- the defaults are those of the def -/
def Pl.ok (dv : List V) : Pl → Prop
  | .mi j i => dv[j]? = some (.int i)
  | .mn j => dv[j]? = some .non
  | _ => True
def fillV (pl : List Pl) (vs zs : List V) : List V := pl.map (Pl.v vs zs)
def fillD (pl : List Pl) (vs zs : List D) : List D := pl.map (Pl.d vs zs)
theorem rpL_getD {K : PySem.W.Frag} {U : Hp} : ∀ {vs : List V} {ds : List D} {i : Nat}, RpL K U vs ds → Rp K U (vs.getD i .non) (ds.getD i .non)
  | _, _, _, .nil => by simp; exact .non
  | _, _, 0, .cons a b => by simpa using a
  | _, _, i + 1, .cons a b => by simpa using rpL_getD (i := i) b
theorem rp_fill {K : PySem.W.Frag} {U : Hp} {vs zs : List V} {xs ys : List D} (h1 : RpL K U vs xs) (h2 : RpL K U zs ys) : ∀ pl : List Pl, RpL K U (fillV pl vs zs) (fillD pl xs ys)
  | [] => .nil
  | q :: pl => by
    refine .cons ?_ (rp_fill h1 h2 pl)
    cases q with
    | p i => exact rpL_getD h1
    | k j => exact rpL_getD h2
    | mi j i => exact .int i
    | mn j => exact .non
def fillU (pl : List Pl) (us ws dl : List Value) : List Value := pl.map (Pl.u us ws dl)
theorem vals_getD : ∀ {vs : List V} {us : List Value} {i : Nat}, Vals vs us → RelV (vs.getD i .non) (us.getD i .none)
  | _, _, _, .nil => by simp; rfl
  | _, _, 0, .cons a b => by simpa using a
  | _, _, i + 1, .cons a b => by simpa using vals_getD (i := i) b
theorem vals_fill {vs zs dv : List V} {us ws dl : List Value} (h1 : Vals vs us) (h2 : Vals zs ws) (h3 : Vals dv dl) : ∀ pl : List Pl, (∀ q ∈ pl, q.ok dv) → Vals (fillV pl vs zs) (fillU pl us ws dl)
  | [], _ => .nil
  | q :: pl, h => by
    refine .cons ?_ (vals_fill h1 h2 h3 pl fun r hr => h r (List.mem_cons_of_mem _ hr))
    have hq := h q List.mem_cons_self
    cases q with
    | p i => exact vals_getD h1
    | k j => exact vals_getD h2
    | mi j i =>
      have := vals_getD (i := j) h3
      have e : dv.getD j .non = .int i := by rw [List.getD_eq_getElem?_getD, show dv[j]? = some (.int i) from hq]; rfl
      rw [e] at this
      exact this
    | mn j =>
      have := vals_getD (i := j) h3
      have e : dv.getD j .non = .non := by rw [List.getD_eq_getElem?_getD, show dv[j]? = some .non from hq]; rfl
      rw [e] at this
      exact this
/-- the def stands in the text -/
def DefInD (K : PySem.W.Frag) (mg : Str → Option Value) (x : Str) (st : Stmt) (dvs : List V) (kws : List (Str × V)) : Prop := ∃ a fd, FunD K x x (defArgs st) (defBody st) (defScope st) dvs kws a fd ∧ mg x = some (.ref a)
def HasG (P : Program) (w : World) (K : PySem.W.Frag) (mg : Str → Option Value) (base : Heap) (k : Nat) (x : Str) (ps : List Str) (sp : Sp) : Prop :=
  ∃ a fd, FnG P w K mg base k a fd ps sp ∧ mg x = some (.ref a) ∧ PySem.W.keepIn K (.ref a) = true ∧ FdAt K a fd
/-- a way to call it -/
def CallIn (K : PySem.W.Frag) (mg : Str → Option Value) (x : Str) (ps : List Str) (n : Nat) (ks : List Str) (pl : List Pl) : Prop :=
  ∃ a fd g, mg x = some (.ref a) ∧ FdAt K a fd ∧ KBn K fd ps n ks g (fillV pl)
section
variable {P : Program} {w : World} {K : PySem.W.Frag} {mg : Str → Option Value} {base : Heap} {k : Nat} {f : Addr} {fd : FuncData} {ps : List Str} {sp : Sp}
theorem fnG_ofD {name qual : Str} {st : Stmt} {N : List Str} {dvs : List V} {kws : List (Str × V)} (F : FunD K name qual (defArgs st) (defBody st) (defScope st) dvs kws f fd) (S : FnScope N ps (defScope st)) (len : ∀ vs H Q E, sp vs H Q E → vs.length = ps.length)
    (hbody : ∀ (cdv : Value) (B : Around) (out : List Env) (t : Shared) (H : Hp) (vs : List V) (Q : VK) (E : XK),
      B.guards = some [] → Room k (B.deeper (envOfC qual (defScope st) t.heap.objs.size f cdv)) → sp vs H Q E →
      ∃ r, PSs (cxOf CX0 P w K mg base N qual (defScope st) f cdv B out t H E).nox (defBody st) r ∧ r { nx := fun _ H' => Q .non H', rt := Q } (start N vs) H) :
    FnG P w K mg base (k + 1) f fd ps sp := by
  obtain ⟨oc, od, dV, kV, doc, pm, an, cdv, ct, osl, rfl, lk, hcd, _, _⟩ := F.ex
  refine ⟨len, fun B out t H args us vs Q E hgu hr e0 hb rv hsp => ?_⟩
  have KH : K.In t.heap := e0.mod.kin.keeps fun c o q => (e0.bs c o q).1
  have noL : t.heap.NoLimit := e0.mod.nolimit.keeps fun c o q => (e0.bs c o q).1
  refine codeAny_call_function hr.depth (KH _ _ lk) rfl S.co S.gen rfl (PySem.W.codeRec_of KH hcd) (hb _ _ _ _ ?_)
  refine wpAny_newFunctionEnv_cells S.kind (fun ⟨nm, val⟩ hy => ?_) fun en hen t1 ic => ?_
  · rcases S.par nm (List.of_mem_zip hy).1 with z | z
    · exact .inl z
    · exact .inr ⟨z, PySem.W.cellsFrom_some _ _ _ (.inl z)⟩
  · subst hen
    refine ⟨noL.keeps ic.toInCall.keep, codeAny_func ?_⟩
    obtain ⟨r, hr1, hr2⟩ := hbody cdv B out t H vs Q E hgu (hr.deeper _) hsp
    have I0 : Inv (cxOf CX0 P w K mg base N qual (defScope st) f cdv B out t H E) [] (start N vs) H t1 := inv_start S hr.hd e0 (len _ _ _ _ hsp) rv ic
    refine wpAny_mono (hr1.nox.run [] t1 (start N vs) H _ I0 hr2) (fun fl t2 hq => ?_) fun e t2 hq => hq
    cases fl with
    | ret u =>
      obtain ⟨v, τ, H2, J, ru, q⟩ := hq
      exact ⟨v, H2, J.os, J.bare, J.base, J.hok, ru, q⟩
    | next =>
      obtain ⟨τ, H2, J, q⟩ := hq
      exact ⟨V.non, H2, J.os, J.bare, J.base, J.hok, rfl, q⟩
    | brk => obtain ⟨_, _, _, q⟩ := hq; exact q.elim
    | cont => obtain ⟨_, _, _, q⟩ := hq; exact q.elim
theorem has_spG {x : Str} {st : Stmt} {N : List Str} {dvs : List V} {kws : List (Str × V)} (Dd : DefInD K mg x st dvs kws) (S : FnScope N ps (defScope st)) (len : ∀ vs H Q E, sp vs H Q E → vs.length = ps.length)
    (hb : ∀ (f : Addr) (cdv : Value) (B : Around) (out : List Env) (t : Shared) (H : Hp) (vs : List V) (Q : VK) (E : XK), B.guards = some [] → Room k (B.deeper (envOfC x (defScope st) t.heap.objs.size f cdv)) → sp vs H Q E →
      ∃ r, PSs (cxOf CX0 P w K mg base N x (defScope st) f cdv B out t H E).nox (defBody st) r ∧ r { nx := fun _ H' => Q .non H', rt := Q } (L2.start N vs) H) :
    HasG P w K mg base (k + 1) x ps sp := by
  obtain ⟨a, fd, F, hm⟩ := Dd
  obtain ⟨oc, od, dV, kV, doc, pm, an, cdv, ct, osl, e, lk, _⟩ := F.ex
  exact ⟨a, fd, fnG_ofD F S len (fun cdv B out t H vs Q E gu hr h => hb a cdv B out t H vs Q E gu hr h), hm, F.kp, ⟨_, _, _, lk⟩⟩
theorem has_FG {x : Str} {st : Stmt} {N : List Str} {dvs : List V} {kws : List (Str × V)} {r : TS} (Dd : DefInD K mg x st dvs kws) (S : FnScope N ps (defScope st)) (np : Nat) (hnp : ps.length = np) (body : Stx) (hn : body.nd K)
    (hb : ∀ (f : Addr) (cdv : Value) (B : Around) (out : List Env) (t : Shared) (H : Hp) (E : XK), B.guards = some [] → Room k (B.deeper (envOfC x (defScope st) t.heap.objs.size f cdv)) →
      PSs (cxOf CX0 P w K mg base N x (defScope st) f cdv B out t H E).nox (defBody st) r) (e : r = body.ts K) : HasG P w K mg base (k + 1) x ps (spD K (CF (fnF N np body))) := by
  subst e
  refine has_spG Dd S (fun vs H Q E h => ?_) fun f cdv B out t H vs Q E gu hr h => ?_
  · obtain ⟨M, ds, Φ, _, r, ⟨d, c, _⟩, _⟩ := h
    rw [r.len, hnp]
    exact Nat.eq_of_beq_eq_true (when_inv c).1
  · refine ⟨body.ts K, hb f cdv B out t H E gu hr, D_body h fun W ds Φ hK hC => ?_⟩
    subst hK
    obtain ⟨d, h, q⟩ := hC
    exact body_ok hn (when_inv h).2 q
end
/-! ### facts of the head -/
section
variable {K : PySem.W.Frag} {mg : Str → Option Value} {h : Heap} {x : Str} {st : Stmt} {ps ks : List Str} {f : Addr} {oc dV kV dc pm cd ct : Value} {od an : Option Addr} {sl : Array (Option Value)} {dvs : List V} {kws ms : List (Str × V)} {n : Nat} {pl : List Pl}
theorem defD_in (X : K.In h) (G : h.Ns mainGlobals mg) (a : PySem.W.nsIn K mainGlobals x = some (some (.ref f))) (l : K.lookup f = some ⟨oc, od, .func (PySem.W.fnOf x x (defArgs st) (defBody st) (defScope st) dV kV dc pm an cd ct), sl⟩)
    (c : PySem.W.codeIn K cd x = true) (k : PySem.W.keepIn K (.ref f) = true) (hD : DflV K dV dvs) (hK : KwdV K kV kws) : DefInD K mg x st dvs kws :=
  ⟨f, _, ⟨⟨_, _, _, _, _, _, _, _, _, _, rfl, l, c, hD, hK⟩, k⟩, PySem.W.mg_of X G a⟩
/-- no defaults but of names alone -/
theorem call_in0 (Dd : DefInD K mg x st [] kws) (hk : kws ≠ []) (hms : ∀ q ∈ ms, q ∈ kws) (hpl : ∀ q ∈ pl, q.ok (ms.map (·.2)))
    (h : ∀ (D : Addr) (doc pm : Value) (an : Option Addr) (cdv ct : Value) (us mv ws : List Value), us.length = n → mv.length = ms.length → ws.length = ks.length →
      KwChain D ((ms.map (·.1)).zip mv) (bindArgs (PySem.W.fnOf x x (defArgs st) (defBody st) (defScope st) .none (.ref D) doc pm an cdv ct) ⟨us, ks.zip ws⟩) (ps.zip (fillU pl us ws mv))) : CallIn K mg x ps n ks pl := by
  obtain ⟨a, fd, F, hm⟩ := Dd
  obtain ⟨oc, od, dV, kV, doc, pm, an, cdv, ct, osl, rfl, lk, hcd, hD, hK⟩ := F.ex
  rcases hD with ⟨_, rfl⟩ | ⟨e, _⟩
  · rcases hK with e | ⟨D, rfl, hq⟩
    · exact absurd e hk
    · obtain ⟨mv, hl, rk, hks⟩ := kwd_vals (ms := ms) fun q hm => hq q (hms q hm)
      exact ⟨a, _, fun us ws => fillU pl us ws mv, hm, ⟨_, _, _, lk⟩, ⟨fun s us ws X l1 l2 => BindsTo.of_looks fun M => KwChain.looks X hks (h D doc pm an cdv ct us mv ws l1 hl l2), fun r1 r2 => vals_fill r1 r2 rk pl hpl⟩⟩
  · exact absurd rfl e
/-- defaults of places, no names alone -/
theorem call_in1 (Dd : DefInD K mg x st dvs []) (hd : dvs ≠ []) (hpl : ∀ q ∈ pl, q.ok dvs)
    (h : ∀ (T : Addr) (kV doc pm : Value) (an : Option Addr) (cdv ct : Value) (us its ws : List Value), us.length = n → its.length = dvs.length → ws.length = ks.length →
      (∃ k, bindArgs (PySem.W.fnOf x x (defArgs st) (defBody st) (defScope st) (.ref T) kV doc pm an cdv ct) ⟨us, ks.zip ws⟩ = seqItems? (.ref T) >>= k ∧ k (some its.toArray) = pure (ps.zip (fillU pl us ws its))) ∨
      bindArgs (PySem.W.fnOf x x (defArgs st) (defBody st) (defScope st) (.ref T) kV doc pm an cdv ct) ⟨us, ks.zip ws⟩ = pure (ps.zip (fillU pl us ws its))) : CallIn K mg x ps n ks pl := by
  obtain ⟨a, fd, F, hm⟩ := Dd
  obtain ⟨oc, od, dV, kV, doc, pm, an, cdv, ct, osl, rfl, lk, hcd, hD, hK⟩ := F.ex
  rcases hD with ⟨e, _⟩ | ⟨_, T, o, its, m, rfl, lT, oT, rT⟩
  · exact absurd e hd
  · refine ⟨a, _, fun us ws => fillU pl us ws its, hm, ⟨_, _, _, lk⟩, ⟨fun s us ws X l1 l2 => BindsTo.of_looks fun M => ?_, fun r1 r2 => vals_fill r1 r2 rT pl hpl⟩⟩
    rcases h T kV doc pm an cdv ct us its ws l1 rT.length.symm l2 with ⟨k, e1, e2⟩ | e1
    · rw [e1]
      exact looks_items X lT oT (.of_pure e2)
    · exact .of_pure e1
theorem dfl_two {T : Addr} {oc : Value} {od : Option Addr} {sl : Array (Option Value)} {u1 u2 : Value} {v1 v2 : V} {n : Nat} (l : K.lookup T = some ⟨oc, od, .seq #[u1, u2] n, sl⟩) (r1 : RelV v1 u1) (r2 : RelV v2 u2) : DflV K (.ref T) [v1, v2] :=
  .inr ⟨by simp, T, _, [u1, u2], n, rfl, l, rfl, .cons r1 (.cons r2 .nil)⟩
theorem kwd_two {D : Addr} {k1 k2 : Str} {u1 u2 : Value} {v1 v2 : V} (l1 : PySem.W.nsIn K D k1 = some (some u1)) (r1 : RelV v1 u1) (l2 : PySem.W.nsIn K D k2 = some (some u2)) (r2 : RelV v2 u2) : KwdV K (.ref D) [(k1, v1), (k2, v2)] :=
  .inr ⟨D, rfl, fun q hq => by
    rcases List.mem_cons.mp hq with rfl | hq
    · exact ⟨u1, l1, r1⟩
    · rcases List.mem_cons.mp hq with rfl | hq
      · exact ⟨u2, l2, r2⟩
      · cases hq⟩
end
/-! ### the calls -/
section
variable {X : Cx} {k n : Nat} {ps ks : List Str} {sp : Sp} {x : Str} {p pos : Pos} {e : Expr} {es : List Expr} {kws : List Keyword} {t tk : TA} {pl : List Pl}
theorem run_fnNG {pins : List (Addr × Obj)} {σ : L2.St} {H : Hp} {s : Shared} {Q : VK} {us ws : List Value} {vs zs : List V} {f : Addr} {fd : FuncData} {g : List Value → List Value → List Value} {gV : List V → List V → List V} (F : FnG X.prog X.w X.K X.mg X.base k f fd ps sp) (gu : X.A.guards = some []) (hr : Room k X.A) (hb : KBn X.K fd ps n ks g gV)
    (I : Inv X pins σ H s) (r : Vals vs us) (rz : Vals zs ws) (l1 : vs.length = n) (l2 : zs.length = ks.length) (h : sp (gV vs zs) H Q E0) : wpAny (model X.prog X.w) X.A (call (.ref f) us (ks.zip ws)) (EP X pins σ Q) X.xe s := by
  have r2 := hb.rel r rz
  refine wpAny_call (codeAny_mono (F.run X.A X.stack s H ⟨us, ks.zip ws⟩ (g us ws) (gV vs zs) Q E0 gu hr I.env0 (hb.to s us ws I.kIn (r.length.symm.trans l1) (rz.length.symm.trans l2)) r2 h) fun r s' hq => ?_)
  cases r with
  | error e => exact hq.elim
  | ok fl =>
    cases fl with
    | ret u => exact I.after hq
    | next => exact hq.elim
    | brk => exact hq.elim
    | cont => exact hq.elim
/-- f(e, .., k = v, ..) -/
theorem pe_cgN (h : HasG X.prog X.w X.K X.mg X.base k x ps sp) (hi : CallIn X.K X.mg x ps n ks pl) (gu : X.A.guards = some []) (hr : Room k X.A) (hg : Gl X x)
    (ha : PA X (e :: es) t) (hkw : PK X kws tk) (hall : (backToKw pos (keywordEach kws X.env)).all (·.1.isSome) = true := by rfl) (hks : (backToKw pos (keywordEach kws X.env)).filterMap (·.1) = ks := by rfl)
    (hdb : (x == ("__debug__" : Str)) = false := by decide) (he : starEach (e :: es) X.env = (false, eval e X.env) :: starEach es X.env := by rfl)
    (hpl : ((backTo pos (starEach (e :: es) X.env)).any (·.1) || (backToKw pos (keywordEach kws X.env)).any (·.1.isNone)) = false := by rfl) :
    PE X (.Call (.Name x p) (e :: es) kws pos) (tCallN n ks.length sp (fillV pl) E0 t tk) := by
  obtain ⟨a, fd, F, hm, hk, oc, od, osl, lk⟩ := h
  obtain ⟨a', fd', g, hm', ⟨oc', od', osl', lk'⟩, hb⟩ := hi
  rw [hm] at hm'
  cases hm'
  rw [lk] at lk'
  cases lk'
  refine ⟨fun pins s σ H Q I h => ?_⟩
  refine wpAny_Call_Name_kw (ld_glob I hg hm ?_ hdb)
  refine PySem.W.callWith_KW (h₀ := X.base) I.ok.mod.kin hk hall (thn (ha.run pos pins s σ H _ I h) fun us s1 ⟨vs, H1, I1, r, q⟩ => ?_) hpl he
  refine thn (hkw.run pos pins s1 σ H1 _ I1 q) fun ws s2 ⟨zs, H2, I2, rz, l1, l2, q2⟩ => ⟨I2.kIn, ?_⟩
  rw [hks]
  exact run_fnNG F gu hr hb I2 r rz l1 l2 q2
/-- f(e, ..) -/
theorem pe_cgP (h : HasG X.prog X.w X.K X.mg X.base k x ps sp) (hi : CallIn X.K X.mg x ps n [] pl) (gu : X.A.guards = some []) (hr : Room k X.A) (hg : Gl X x)
    (ha : PA X (e :: es) t) (hdb : (x == ("__debug__" : Str)) = false := by decide) (he : starEach (e :: es) X.env = (false, eval e X.env) :: starEach es X.env := by rfl) (hpl : (backTo pos (starEach es X.env)).any (·.1) = false := by rfl) :
    PE X (.Call (.Name x p) (e :: es) [] pos) (tCallN n 0 sp (fillV pl) E0 t tNil) := by
  obtain ⟨a, fd, F, hm, hk, oc, od, osl, lk⟩ := h
  obtain ⟨a', fd', g, hm', ⟨oc', od', osl', lk'⟩, hb⟩ := hi
  rw [hm] at hm'
  cases hm'
  rw [lk] at lk'
  cases lk'
  refine ⟨fun pins s σ H Q I h => ?_⟩
  refine wpAny_Call_Name_kw (ld_glob I hg hm ?_ hdb)
  refine PySem.W.callWith_K (h₀ := X.base) I.ok.mod.kin hk (thn (ha.run pos pins s σ H _ I h) fun us s1 ⟨vs, H1, I1, r, q⟩ => ⟨I1.kIn, ?_⟩) he hpl
  obtain ⟨l1, l2, q⟩ := q
  exact run_fnNG (ws := []) F gu hr hb I1 r .nil l1 l2 q
/-- f(k = v, ..) -/
theorem pe_cgK (h : HasG X.prog X.w X.K X.mg X.base k x ps sp) (hi : CallIn X.K X.mg x ps 0 ks pl) (gu : X.A.guards = some []) (hr : Room k X.A) (hg : Gl X x) (hkw : PK X kws tk)
    (hall : (backToKw pos (keywordEach kws X.env)).all (·.1.isSome) = true := by rfl) (hks : (backToKw pos (keywordEach kws X.env)).filterMap (·.1) = ks := by rfl) (hdb : (x == ("__debug__" : Str)) = false := by decide)
    (hpl : ((backTo pos (starEach [] X.env)).any (·.1) || (backToKw pos (keywordEach kws X.env)).any (·.1.isNone)) = false := by rfl) :
    PE X (.Call (.Name x p) [] kws pos) (tCallN 0 ks.length sp (fillV pl) E0 tNil tk) := by
  obtain ⟨a, fd, F, hm, hk, oc, od, osl, lk⟩ := h
  obtain ⟨a', fd', g, hm', ⟨oc', od', osl', lk'⟩, hb⟩ := hi
  rw [hm] at hm'
  cases hm'
  rw [lk] at lk'
  cases lk'
  refine ⟨fun pins s σ H Q I h => ?_⟩
  refine wpAny_Call_Name_kw (ld_glob I hg hm ?_ hdb)
  refine PySem.W.callWith_KW0 (h₀ := X.base) I.ok.mod.kin hk hall ?_ hpl
  refine thn (hkw.run pos pins s σ H _ I h) fun ws s2 ⟨zs, H2, I2, rz, l1, l2, q2⟩ => ⟨I2.kIn, ?_⟩
  rw [hks]
  exact run_fnNG (us := []) F gu hr hb I2 .nil rz l1 l2 q2
end
/-! ### over data -/
theorem wp_cg {W : Wo} {n0 m0 n : Nat} {env : List E} {Φ : D → Nat → Prop} {ta tk : TA} {f : List D → Option D} {pl : List Pl} (q : WpA W ta n env fun xs n1 => WpA W tk n1 env fun ys n2 => xs.length = n0 ∧ ys.length = m0 ∧ ∃ d, f (fillD pl xs ys) = some d ∧ Φ d n2) :
    Wp W (tCallN n0 m0 (spD W.K (CF f)) (fillV pl) E0 ta tk) n env Φ := fun σ stk vs H Q w kk =>
  q σ stk vs H _ w fun us xs n1 H1 q1 l1 w1 =>
  q1 σ _ _ H1 _ w1 fun zs ys n2 H2 q2 l2 w2 => by
    obtain ⟨e1, e2, d, hd, qd⟩ := q2
    refine ⟨by rw [l1]; exact e1, by rw [l2]; exact e2, ?_⟩
    have w3 : Wd W n2 env σ ((fillD pl xs ys).map E.d ++ stk) ((fillV pl us zs).map some ++ vs) H2 := by
      have w2' : Wd W n2 env σ ((ys ++ xs).map E.d ++ stk) ((zs ++ us).map some ++ vs) H2 := by
        rw [List.map_append, List.map_append, List.append_assoc, List.append_assoc]
        exact w2
      refine w2'.restk (by rw [List.length_append, List.length_append, l1, l2]) fun U _ r => ?_
      obtain ⟨r1, r2⟩ := RpL.split l2 r
      exact rp_fill r2 r1 pl
    have hid := w3.hidH
    have lf : (fillV pl us zs).length = (fillD pl xs ys).length := by unfold fillV fillD; rw [List.length_map, List.length_map]
    obtain ⟨k1, h1, pp, M1, M2, a, nd, b, c⟩ := w3
    obtain ⟨c1, c2⟩ := EnvOk.toL lf c
    refine ⟨W.M0 ++ (M1 ++ M2), fillD pl xs ys, fun d => Φ d n2, fun p hp => ?_, c1, ⟨d, hd, qd⟩, fun v d H3 p s r => kk v d n2 H3 p ?_⟩
    · rcases List.mem_append.mp hp with z | z
      · exact hid p z
      · exact (a p z).2
    · refine ⟨fun b o n q => s _ _ (k1 b o n q), h1, fun q hq => ⟨(pp q hq).1, (pp q hq).2.mono s⟩, M1, M2, fun q hq => ⟨(a q hq).1, fun z => ?_⟩, nd, b.mono (era_mono _ s) s, ⟨v, rfl, r⟩, c2.mono (era_mono _ s) s⟩
      cases r : H2 q with
      | none => exact (a q hq).2 r
      | some o => rw [s _ _ r] at z; cases z
def xCallG (f : List D → Option D) (n m : Nat) (pl : List Pl) (a b : Exs) : Ex := ⟨fun K => tCallN n m (spD K (CF f)) (fillV pl) E0 (a.ta K) (b.ta K), fun env => (a.ev env).bind fun xs => (b.ev env).bind fun ys => when (Nat.beq xs.length n && Nat.beq ys.length m) (f (fillD pl xs ys)), two a.nd b.nd, fun k h q => by
  obtain ⟨xs, h1, g1⟩ := bind_inv h
  obtain ⟨ys, h2, g2⟩ := bind_inv g1
  obtain ⟨h3, g3⟩ := when_inv g2
  rw [Bool.and_eq_true] at h3
  exact wp_cg (a.ok k.1 h1 (b.ok k.2 h2 ⟨Nat.eq_of_beq_eq_true h3.1, Nat.eq_of_beq_eq_true h3.2, _, g3, q⟩))⟩
theorem te_xCallG (f : List D → Option D) (n m : Nat) (pl : List Pl) (a b : Exs) (K : PySem.W.Frag) : (xCallG f n m pl a b).te K = tCallN n m (spD K (CF f)) (fillV pl) E0 (a.ta K) (b.ta K) := rfl
theorem ev_xCallG (f : List D → Option D) (n m : Nat) (pl : List Pl) (a b : Exs) (env : List E) : (xCallG f n m pl a b).ev env = ((a.ev env).bind fun xs => (b.ev env).bind fun ys => when (Nat.beq xs.length n && Nat.beq ys.length m) (f (fillD pl xs ys))) := rfl
/-! ## powers -/
def mPow : Sem2 := mIc CPow (fun i j => decide (0 ≤ j) && Nat.ble j.toNat 1000000 && Nat.ble i.natAbs 18446744073709551615) (fun i j h => by
  rw [Bool.and_eq_true, Bool.and_eq_true, decide_eq_true_eq] at h
  have h2 := Nat.le_of_ble_eq_true h.1.2
  have h3 := Nat.le_of_ble_eq_true h.2
  exact ⟨h.1.1, by omega, by omega⟩) (fun i j => .int (i ^ j.toNat)) (fun i j => .int (i ^ j.toNat)) fun _ _ _ _ => .int _
theorem r_pow {X : Cx} {K : PySem.W.Frag} : OpR X (binaryOp .Pow) (mPow.r K) := op_pow
theorem sem_pow (i j : Int) : mPow.f (.int i) (.int j) = when (decide (0 ≤ j) && Nat.ble j.toNat 1000000 && Nat.ble i.natAbs 18446744073709551615) (some (.int (i ^ j.toNat))) := rfl
end FR
namespace FR
open PySem PySem.Spec PyProof.Rows L2
variable [TheW]
/-! ## dict displays as readings -/
def xDNew : Ex := ⟨fun _ => tDNewK, fun _ => some (.dct []), tru, fun _ h q => by cases h; exact wp_dnew q⟩
def xDispV (z : Str) (i : Nat) : Ex := ⟨fun _ => tDisp [(tC (.str z), tVar i)], fun env => (atEnv env[i]?).bind fun x => some (.dct [(.inr z, x)]), tru, fun _ h q => by
  obtain ⟨x, h1, h⟩ := bind_inv h
  cases h
  exact wp_disp1v (atEnv_inv h1) q⟩
def xDispI (z : Str) (k : Int) : Ex := ⟨fun _ => tDisp [(tC (.str z), tC (.int k))], fun _ => some (.dct [(.inr z, .int k)]), tru, fun _ h q => by
  cases h
  exact wp_disp1 (v := .int k) (fun _ _ => .int k) q⟩
theorem te_xDNew (K : PySem.W.Frag) : xDNew.te K = tDNewK := rfl
theorem te_xDispV (z : Str) (i : Nat) (K : PySem.W.Frag) : (xDispV z i).te K = tDisp [(tC (.str z), tVar i)] := rfl
theorem te_xDispI (z : Str) (k : Int) (K : PySem.W.Frag) : (xDispI z k).te K = tDisp [(tC (.str z), tC (.int k))] := rfl
theorem ev_xDNew (env : List E) : xDNew.ev env = some (.dct []) := rfl
theorem ev_xDispV (z : Str) (i : Nat) (env : List E) : (xDispV z i).ev env = ((atEnv env[i]?).bind fun x => some (.dct [(.inr z, x)])) := rfl
theorem ev_xDispI (z : Str) (k : Int) (env : List E) : (xDispI z k).ev env = some (.dct [(.inr z, .int k)]) := rfl
end FR
namespace FR
open PySem PySem.Spec PyProof.Rows L2
variable [TheW]
def top (i : Nat) : Stmt := PySem.Challenge.pw_fitruns_k07_questions_of_any_value.main.body.getD i (.Pass ⟨0, 0, 0, 0⟩)
structure Txt (mg : Str → Option Value) : Prop where
  n_isinstance : mg "isinstance" = none
  n_int : mg "int" = none
  n_bool : mg "bool" = none
  n_str : mg "str" = none
  n_tuple : mg "tuple" = none
  n_len : mg "len" = none
  n_all : mg "all" = none
  n_any : mg "any" = none
  n_zip : mg "zip" = none
  n_abs : mg "abs" = none
  n_max : mg "max" = none
  n_min : mg "min" = none
  n_range : mg "range" = none
  n_repr : mg "repr" = none
  n_list : mg "list" = none
  n_dict : mg "dict" = none
  n_set : mg "set" = none
  n_sorted : mg "sorted" = none
  n_sum : mg "sum" = none
  n_enumerate : mg "enumerate" = none
  c_STEP : Gc mg "STEP" (.str "step")
  c_KIND : Gc mg "KIND" (.str "kind")
  c_MOST_LETTERS : Gc mg "MOST_LETTERS" (.int 8)
  c_LETTERS : Gc mg "LETTERS" (.str "abcdefghijklmnopqrstuvwxyz")
structure TxtC (K : PySem.W.Frag) : Prop where
  nothing : True
section
variable {P : Program} {K : PySem.W.Frag} {mg : Str → Option Value} {base : Heap}
abbrev s_law_is_title : Stmt := top 18
abbrev N_law_is_title : List Str := ["_law_thing", "_law_sign"]
theorem sc_law_is_title : FnScope N_law_is_title ["_law_thing"] (defScope s_law_is_title) := ⟨rfl, rfl, rfl, by decide +kernel, rfl, by decide +kernel, by decide +kernel⟩
def b_law_is_title : Stx := (sSeq (sIf (tOr_ (tNot_ (tB_ (xFn mIsi (aCons (xVar 0) (aCons (xTy "str") aNil))))) (tNot_ (tTest_ (xChain mLe mLe (xInt 1) (xFn mLen (aCons (xVar 0) aNil)) (xInt 8))))) (sRet (xBl false)) sNext) (sRet (xFn mAll (aCons (xLc (jSeq (xVar 0)) (gName_ 1) tYes_ (xOp2 mIn (xVar 1) (xStr "abcdefghijklmnopqrstuvwxyz")) [1] (id rfl)) aNil))))
def m_law_is_title : List D → Option D := fnF N_law_is_title 1 b_law_is_title
theorem mE_law_is_title (a0 : D) : m_law_is_title [a0] = endOf (b_law_is_title.ev [.d a0, .any]) := id rfl
theorem ok_law_is_title (T : Txt mg) (TC : TxtC K) (sysb : SysB base) (Dd : DefIn K mg "_law_is_title" s_law_is_title ["_law_thing"])  : Has P TheW.w K mg base 1 "_law_is_title" ["_law_thing"] (spD K (CF m_law_is_title)) :=
  has_F2 (k := 0) Dd sc_law_is_title 1 rfl b_law_is_title (by repeat (first | exact trivial | exact TC.cl | refine And.intro ?_ ?_)) (fun f cdv B out t H E gu hr => (pss_cons (ps_if (PW.pt (pw_or (pt_not (pt_val (pe_callB (r_isi (K := K) rfl) (by rfl) T.n_isinstance (by decide +kernel) (pa_cons (pv 0) (pa_cons (pe_bltn (v := .ty "str") (by rfl) T.n_str (by decide +kernel) rfl) pa_nil))))) (pw_or1 (pt_not (pt_chain (r_le (K := K)) (r_le (K := K)) pe_int (pe_callB (r_len (K := K) rfl) (by rfl) T.n_len PySem.boot_len (pa_cons (pv 0) pa_nil)) pe_int))))) (pss_one (ps_ret pe_bl)) pss_nil)
      (pss_one (ps_ret (pe_callB (r_all (K := K) rfl rfl) (by rfl) T.n_all (by decide +kernel) (pa_cons (pe_lc (own := [("_law_sign", 1)]) rfl sc_law_is_title.nd (r_seq (K := K) rfl (pv 0)) (blkOk_by (own := [("_law_sign", 1)]) (N := N_law_is_title) (sc := defScope s_law_is_title) (by decide +kernel)) (fun _ _ _ _ _ => (pg_name (i := 1) sc_law_is_title.nd rfl (Or.inl rfl))) (fun _ _ _ _ _ => pts_nil) (fun _ _ _ _ _ => (pe_cmpR (r_in (K := K) rfl) (pv 1) pe_str (by rfl)))) pa_nil)))))) (by unfold b_law_is_title; (simp only [List.map_cons, List.map_nil, te_xVar, te_xInt, te_xStr, te_xBl, te_xTy, te_xNon, te_aNil, te_aCons, te_xTup, te_xLst, te_xOp2, te_xUn, te_xFn, te_xCall, te_tB_, te_tTest_, te_tYes_, te_tNot_, te_tAnd_, te_tOr_, te_xAnd, te_xOr, te_xNot, te_xIf, te_xChain, te_poNone, te_poSome, te_gName_, te_gNil_, te_gCons_, te_gTup_, te_xLc, te_sNext, te_sSeq, te_sDrop, te_sRet, te_sRetN, te_sIf, te_sAsg, te_sBreak, te_sCont, te_sFor, te_sWhile, te_jSeq, te_jRange1, te_jRange2, te_xSl, te_xRevT, te_jZip, te_xPeek, te_tPeek, te_sNever, te_sFz, te_sOwn, te_fLst, te_fLc, te_fListT, te_sSetF, te_sAppend, te_sExtend, te_sPar, te_sAugI, te_xLc2, te_xFld, te_xMeth, te_xMake, te_sFld_, te_xDGet, te_xDIn, te_xDGet2, te_xDc, te_xValsKeys, te_xLenSet, te_xSortSet, te_jZip3, te_sParL, te_sPar3, te_jEnum1, te_jEnum2, te_qCons, te_qTup, te_qLst, te_qOp2, te_qUn, te_qFn, te_qCall, te_qDraw, te_qB, te_qTest, te_qNotT, te_qAndT, te_qOrT, te_qAnd, te_qOr, te_qNot, te_qIf, te_qChain, te_qPart, te_qSeqI, te_qRange1, te_qRange2, te_qLc, te_qfLc, te_qSeq, te_qDrop, te_qRet, te_qIfS, te_qAsg, te_qFor, te_qWhile, te_qFz, te_qSetF, te_qAppend, te_qExtend, te_qPar, te_qE, te_qA, te_qT, te_qI, te_qF, te_qP, te_qS, te_mxNil, te_mxD, te_mxO, te_mpNil, te_mpD, te_mpO, te_gNames0, te_gNames1, te_sParM2, te_sParM3, te_sParMN, te_qParM2, te_qParM3, te_qParMN, te_fDNew, te_fDict, te_qfDict, te_qfLst, te_sDPut_, te_fRep, te_sIxPut, te_jZipM, te_xOrT, te_xAndT, te_qPar3, te_xDGetT, te_fDNewT, te_sDPutT, te_qDPutT, te_xLcK, to_poOpt, te_xCallG, te_xDNew, te_xDispV, te_xDispI
] <;> rfl))
abbrev s_law_is_item : Stmt := top 19
abbrev N_law_is_item : List Str := ["_law_thing"]
theorem sc_law_is_item : FnScope N_law_is_item ["_law_thing"] (defScope s_law_is_item) := ⟨rfl, rfl, rfl, by decide +kernel, rfl, by decide +kernel, by decide +kernel⟩
def b_law_is_item : Stx := (sSeq (sIf (tOr_ (tNot_ (tB_ (xFn mIsi (aCons (xVar 0) (aCons (xTy "tuple") aNil))))) (tOr_ (tTest_ (xOp2 mNe (xFn mLen (aCons (xVar 0) aNil)) (xInt 3))) (tNot_ (tB_ (xFn mIsi (aCons (xOp2 mIx (xVar 0) (xInt 0)) (aCons (xTy "str") aNil))))))) (sRet (xBl false)) sNext) (sSeq (sIf (tOr_ (tTest_ (xOp2 mNin (xOp2 mIx (xVar 0) (xInt 0)) (xTup (aCons (xStr "kind") (aCons (xStr "step") aNil))))) (tNot_ (tB_ (xCall m_law_is_title (aCons (xOp2 mIx (xVar 0) (xInt 1)) aNil))))) (sRet (xBl false)) sNext) (sRet (xAnd (xFn mIsi (aCons (xOp2 mIx (xVar 0) (xInt 2)) (aCons (xTy "int") aNil))) (xAnd (xNot (xFn mIsi (aCons (xOp2 mIx (xVar 0) (xInt 2)) (aCons (xTy "bool") aNil)))) (xOp2 mNe (xOp2 mIx (xVar 0) (xInt 2)) (xInt 0)))))))
def m_law_is_item : List D → Option D := fnF N_law_is_item 1 b_law_is_item
theorem mE_law_is_item (a0 : D) : m_law_is_item [a0] = endOf (b_law_is_item.ev [.d a0]) := id rfl
theorem ok_law_is_item (T : Txt mg) (TC : TxtC K) (sysb : SysB base) (Dd : DefIn K mg "_law_is_item" s_law_is_item ["_law_thing"]) (h_law_is_title : Has P TheW.w K mg base 1 "_law_is_title" ["_law_thing"] (spD K (CF m_law_is_title))) : Has P TheW.w K mg base 2 "_law_is_item" ["_law_thing"] (spD K (CF m_law_is_item)) :=
  has_F2 (k := 1) Dd sc_law_is_item 1 rfl b_law_is_item (by repeat (first | exact trivial | exact TC.cl | refine And.intro ?_ ?_)) (fun f cdv B out t H E gu hr => (pss_cons (ps_if (PW.pt (pw_or (pt_not (pt_val (pe_callB (r_isi (K := K) rfl) (by rfl) T.n_isinstance (by decide +kernel) (pa_cons (pv 0) (pa_cons (pe_bltn (v := .ty "tuple") (by rfl) T.n_tuple (by decide +kernel) rfl) pa_nil))))) (pw_or (pt_cmpR (r_ne (K := K) rfl hr.units) (pe_callB (r_len (K := K) rfl) (by rfl) T.n_len PySem.boot_len (pa_cons (pv 0) pa_nil)) pe_int (nomark _)) (pw_or1 (pt_not (pt_val (pe_callB (r_isi (K := K) rfl) (by rfl) T.n_isinstance (by decide +kernel) (pa_cons (pe_ix (r_ix (K := K) rfl) (pv 0) pe_int (fun _ _ => rfl)) (pa_cons (pe_bltn (v := .ty "str") (by rfl) T.n_str (by decide +kernel) rfl) pa_nil))))))))) (pss_one (ps_ret pe_bl)) pss_nil)
      (pss_cons (ps_if (PW.pt (pw_or (pt_cmpR (r_nin (K := K) rfl) (pe_ix (r_ix (K := K) rfl) (pv 0) pe_int (fun _ _ => rfl)) (pe_tupP (pa_cons pe_str (pa_cons pe_str pa_nil))) (by rfl)) (pw_or1 (pt_not (pt_val (pe_has h_law_is_title gu (hr.mono (by decide)) (by rfl) (pa_cons (pe_ix (r_ix (K := K) rfl) (pv 0) pe_int (fun _ _ => rfl)) pa_nil))))))) (pss_one (ps_ret pe_bl)) pss_nil)
      (pss_one (ps_ret (pe_and (pe_callB (r_isi (K := K) rfl) (by rfl) T.n_isinstance (by decide +kernel) (pa_cons (pe_ix (r_ix (K := K) rfl) (pv 0) pe_int (fun _ _ => rfl)) (pa_cons (pe_bltn (v := .ty "int") (by rfl) T.n_int (by decide +kernel) rfl) pa_nil))) (pe_and (pe_not (pe_callB (r_isi (K := K) rfl) (by rfl) T.n_isinstance (by decide +kernel) (pa_cons (pe_ix (r_ix (K := K) rfl) (pv 0) pe_int (fun _ _ => rfl)) (pa_cons (pe_bltn (v := .ty "bool") (by rfl) T.n_bool (by decide +kernel) rfl) pa_nil)))) (pe_one (pe_cmpR (r_ne (K := K) rfl hr.units) (pe_ix (r_ix (K := K) rfl) (pv 0) pe_int (fun _ _ => rfl)) pe_int (nomark _)))))))))) (by unfold b_law_is_item; (simp only [List.map_cons, List.map_nil, te_xVar, te_xInt, te_xStr, te_xBl, te_xTy, te_xNon, te_aNil, te_aCons, te_xTup, te_xLst, te_xOp2, te_xUn, te_xFn, te_xCall, te_tB_, te_tTest_, te_tYes_, te_tNot_, te_tAnd_, te_tOr_, te_xAnd, te_xOr, te_xNot, te_xIf, te_xChain, te_poNone, te_poSome, te_gName_, te_gNil_, te_gCons_, te_gTup_, te_xLc, te_sNext, te_sSeq, te_sDrop, te_sRet, te_sRetN, te_sIf, te_sAsg, te_sBreak, te_sCont, te_sFor, te_sWhile, te_jSeq, te_jRange1, te_jRange2, te_xSl, te_xRevT, te_jZip, te_xPeek, te_tPeek, te_sNever, te_sFz, te_sOwn, te_fLst, te_fLc, te_fListT, te_sSetF, te_sAppend, te_sExtend, te_sPar, te_sAugI, te_xLc2, te_xFld, te_xMeth, te_xMake, te_sFld_, te_xDGet, te_xDIn, te_xDGet2, te_xDc, te_xValsKeys, te_xLenSet, te_xSortSet, te_jZip3, te_sParL, te_sPar3, te_jEnum1, te_jEnum2, te_qCons, te_qTup, te_qLst, te_qOp2, te_qUn, te_qFn, te_qCall, te_qDraw, te_qB, te_qTest, te_qNotT, te_qAndT, te_qOrT, te_qAnd, te_qOr, te_qNot, te_qIf, te_qChain, te_qPart, te_qSeqI, te_qRange1, te_qRange2, te_qLc, te_qfLc, te_qSeq, te_qDrop, te_qRet, te_qIfS, te_qAsg, te_qFor, te_qWhile, te_qFz, te_qSetF, te_qAppend, te_qExtend, te_qPar, te_qE, te_qA, te_qT, te_qI, te_qF, te_qP, te_qS, te_mxNil, te_mxD, te_mxO, te_mpNil, te_mpD, te_mpO, te_gNames0, te_gNames1, te_sParM2, te_sParM3, te_sParMN, te_qParM2, te_qParM3, te_qParMN, te_fDNew, te_fDict, te_qfDict, te_qfLst, te_sDPut_, te_fRep, te_sIxPut, te_jZipM, te_xOrT, te_xAndT, te_qPar3, te_xDGetT, te_fDNewT, te_sDPutT, te_qDPutT, te_xLcK, to_poOpt, te_xCallG, te_xDNew, te_xDispV, te_xDispI
] <;> rfl))
abbrev s_law_is_one : Stmt := top 20
abbrev N_law_is_one : List Str := ["_law_thing", "_law_one", "_law_other"]
theorem sc_law_is_one : FnScope N_law_is_one ["_law_thing"] (defScope s_law_is_one) := ⟨rfl, rfl, rfl, by decide +kernel, rfl, by decide +kernel, by decide +kernel⟩
def b_law_is_one : Stx := (sSeq (sIf (tOr_ (tNot_ (tB_ (xFn mIsi (aCons (xVar 0) (aCons (xTy "tuple") aNil))))) (tNot_ (tB_ (xFn mAll (aCons (xLc (jSeq (xVar 0)) (gName_ 1) tYes_ (xCall m_law_is_item (aCons (xVar 1) aNil)) [1] (id rfl)) aNil))))) (sRet (xBl false)) sNext) (sRet (xFn mAll (aCons (xLc (jZip (aCons (xVar 0) (aCons (xSl mSl (xVar 0) (poSome (xInt 1)) poNone) aNil))) (gTup_ 2 (gCons_ (gName_ 1) (gCons_ (gName_ 2) gNil_))) tYes_ (xOp2 mLtX (xSl mSl (xVar 1) poNone (poSome (xInt 2))) (xSl mSl (xVar 2) poNone (poSome (xInt 2)))) [1, 2] (id rfl)) aNil))))
def m_law_is_one : List D → Option D := fnF N_law_is_one 1 b_law_is_one
theorem mE_law_is_one (a0 : D) : m_law_is_one [a0] = endOf (b_law_is_one.ev [.d a0, .any, .any]) := id rfl
theorem ok_law_is_one (T : Txt mg) (TC : TxtC K) (sysb : SysB base) (Dd : DefIn K mg "_law_is_one" s_law_is_one ["_law_thing"]) (h_law_is_item : Has P TheW.w K mg base 2 "_law_is_item" ["_law_thing"] (spD K (CF m_law_is_item))) : Has P TheW.w K mg base 3 "_law_is_one" ["_law_thing"] (spD K (CF m_law_is_one)) :=
  has_F2 (k := 2) Dd sc_law_is_one 1 rfl b_law_is_one (by repeat (first | exact trivial | exact TC.cl | refine And.intro ?_ ?_)) (fun f cdv B out t H E gu hr => (pss_cons (ps_if (PW.pt (pw_or (pt_not (pt_val (pe_callB (r_isi (K := K) rfl) (by rfl) T.n_isinstance (by decide +kernel) (pa_cons (pv 0) (pa_cons (pe_bltn (v := .ty "tuple") (by rfl) T.n_tuple (by decide +kernel) rfl) pa_nil))))) (pw_or1 (pt_not (pt_val (pe_callB (r_all (K := K) rfl rfl) (by rfl) T.n_all (by decide +kernel) (pa_cons (pe_lc (own := [("_law_one", 1)]) rfl sc_law_is_one.nd (r_seq (K := K) rfl (pv 0)) (blkOk_by (own := [("_law_one", 1)]) (N := N_law_is_one) (sc := defScope s_law_is_one) (by decide +kernel)) (fun _ _ _ _ _ => (pg_name (i := 1) sc_law_is_one.nd rfl (Or.inl rfl))) (fun _ _ _ _ _ => pts_nil) (fun _ _ _ _ _ => (pe_has h_law_is_item gu (hr.mono (by decide)) (by rfl) (pa_cons (pv 1) pa_nil)))) pa_nil))))))) (pss_one (ps_ret pe_bl)) pss_nil)
      (pss_one (ps_ret (pe_callB (r_all (K := K) rfl rfl) (by rfl) T.n_all (by decide +kernel) (pa_cons (pe_lc (own := [("_law_one", 1), ("_law_other", 2)]) rfl sc_law_is_one.nd (k_zip (K := K) rfl (by rfl) T.n_zip (pa_cons (pv 0) (pa_cons (pe_slice (r_sl (K := K) rfl) (pv 0) (po_some pe_int) po_none) pa_nil))) (blkOk_by (own := [("_law_one", 1), ("_law_other", 2)]) (N := N_law_is_one) (sc := defScope s_law_is_one) (by decide +kernel)) (fun _ _ _ _ _ => (k_tgt (K := K) (n := 2) rfl rfl (pgs_cons (pg_name (i := 1) sc_law_is_one.nd rfl (Or.inl rfl)) (pgs_cons (pg_name (i := 2) sc_law_is_one.nd rfl (Or.inl rfl)) pgs_nil)))) (fun _ _ _ _ _ => pts_nil) (fun _ _ _ _ _ => (pe_cmpR (r_ltX (K := K) rfl hr.units) (pe_slice (r_sl (K := K) rfl) (pv 1) po_none (po_some pe_int)) (pe_slice (r_sl (K := K) rfl) (pv 2) po_none (po_some pe_int)) (nomark _)))) pa_nil)))))) (by unfold b_law_is_one; (simp only [List.map_cons, List.map_nil, te_xVar, te_xInt, te_xStr, te_xBl, te_xTy, te_xNon, te_aNil, te_aCons, te_xTup, te_xLst, te_xOp2, te_xUn, te_xFn, te_xCall, te_tB_, te_tTest_, te_tYes_, te_tNot_, te_tAnd_, te_tOr_, te_xAnd, te_xOr, te_xNot, te_xIf, te_xChain, te_poNone, te_poSome, te_gName_, te_gNil_, te_gCons_, te_gTup_, te_xLc, te_sNext, te_sSeq, te_sDrop, te_sRet, te_sRetN, te_sIf, te_sAsg, te_sBreak, te_sCont, te_sFor, te_sWhile, te_jSeq, te_jRange1, te_jRange2, te_xSl, te_xRevT, te_jZip, te_xPeek, te_tPeek, te_sNever, te_sFz, te_sOwn, te_fLst, te_fLc, te_fListT, te_sSetF, te_sAppend, te_sExtend, te_sPar, te_sAugI, te_xLc2, te_xFld, te_xMeth, te_xMake, te_sFld_, te_xDGet, te_xDIn, te_xDGet2, te_xDc, te_xValsKeys, te_xLenSet, te_xSortSet, te_jZip3, te_sParL, te_sPar3, te_jEnum1, te_jEnum2, te_qCons, te_qTup, te_qLst, te_qOp2, te_qUn, te_qFn, te_qCall, te_qDraw, te_qB, te_qTest, te_qNotT, te_qAndT, te_qOrT, te_qAnd, te_qOr, te_qNot, te_qIf, te_qChain, te_qPart, te_qSeqI, te_qRange1, te_qRange2, te_qLc, te_qfLc, te_qSeq, te_qDrop, te_qRet, te_qIfS, te_qAsg, te_qFor, te_qWhile, te_qFz, te_qSetF, te_qAppend, te_qExtend, te_qPar, te_qE, te_qA, te_qT, te_qI, te_qF, te_qP, te_qS, te_mxNil, te_mxD, te_mxO, te_mpNil, te_mpD, te_mpO, te_gNames0, te_gNames1, te_sParM2, te_sParM3, te_sParMN, te_qParM2, te_qParM3, te_qParMN, te_fDNew, te_fDict, te_qfDict, te_qfLst, te_sDPut_, te_fRep, te_sIxPut, te_jZipM, te_xOrT, te_xAndT, te_qPar3, te_xDGetT, te_fDNewT, te_sDPutT, te_qDPutT, te_xLcK, to_poOpt, te_xCallG, te_xDNew, te_xDispV, te_xDispI
] <;> rfl))
abbrev s_is_integer : Stmt := top 3
abbrev N_is_integer : List Str := ["value"]
theorem sc_is_integer : FnScope N_is_integer ["value"] (defScope s_is_integer) := ⟨rfl, rfl, rfl, by decide +kernel, rfl, by decide +kernel, by decide +kernel⟩
def b_is_integer : Stx := (sRet (xAnd (xFn mIsi (aCons (xVar 0) (aCons (xTy "int") aNil))) (xNot (xFn mIsi (aCons (xVar 0) (aCons (xTy "bool") aNil))))))
def m_is_integer : List D → Option D := fnF N_is_integer 1 b_is_integer
theorem mE_is_integer (a0 : D) : m_is_integer [a0] = endOf (b_is_integer.ev [.d a0]) := id rfl
theorem ok_is_integer (T : Txt mg) (TC : TxtC K) (sysb : SysB base) (Dd : DefIn K mg "is_integer" s_is_integer ["value"])  : Has P TheW.w K mg base 1 "is_integer" ["value"] (spD K (CF m_is_integer)) :=
  has_F2 (k := 0) Dd sc_is_integer 1 rfl b_is_integer (by repeat (first | exact trivial | exact TC.cl | refine And.intro ?_ ?_)) (fun f cdv B out t H E gu hr => (pss_one (ps_ret (pe_and (pe_callB (r_isi (K := K) rfl) (by rfl) T.n_isinstance (by decide +kernel) (pa_cons (pv 0) (pa_cons (pe_bltn (v := .ty "int") (by rfl) T.n_int (by decide +kernel) rfl) pa_nil))) (pe_one (pe_not (pe_callB (r_isi (K := K) rfl) (by rfl) T.n_isinstance (by decide +kernel) (pa_cons (pv 0) (pa_cons (pe_bltn (v := .ty "bool") (by rfl) T.n_bool (by decide +kernel) rfl) pa_nil))))))))) (by unfold b_is_integer; (simp only [List.map_cons, List.map_nil, te_xVar, te_xInt, te_xStr, te_xBl, te_xTy, te_xNon, te_aNil, te_aCons, te_xTup, te_xLst, te_xOp2, te_xUn, te_xFn, te_xCall, te_tB_, te_tTest_, te_tYes_, te_tNot_, te_tAnd_, te_tOr_, te_xAnd, te_xOr, te_xNot, te_xIf, te_xChain, te_poNone, te_poSome, te_gName_, te_gNil_, te_gCons_, te_gTup_, te_xLc, te_sNext, te_sSeq, te_sDrop, te_sRet, te_sRetN, te_sIf, te_sAsg, te_sBreak, te_sCont, te_sFor, te_sWhile, te_jSeq, te_jRange1, te_jRange2, te_xSl, te_xRevT, te_jZip, te_xPeek, te_tPeek, te_sNever, te_sFz, te_sOwn, te_fLst, te_fLc, te_fListT, te_sSetF, te_sAppend, te_sExtend, te_sPar, te_sAugI, te_xLc2, te_xFld, te_xMeth, te_xMake, te_sFld_, te_xDGet, te_xDIn, te_xDGet2, te_xDc, te_xValsKeys, te_xLenSet, te_xSortSet, te_jZip3, te_sParL, te_sPar3, te_jEnum1, te_jEnum2, te_qCons, te_qTup, te_qLst, te_qOp2, te_qUn, te_qFn, te_qCall, te_qDraw, te_qB, te_qTest, te_qNotT, te_qAndT, te_qOrT, te_qAnd, te_qOr, te_qNot, te_qIf, te_qChain, te_qPart, te_qSeqI, te_qRange1, te_qRange2, te_qLc, te_qfLc, te_qSeq, te_qDrop, te_qRet, te_qIfS, te_qAsg, te_qFor, te_qWhile, te_qFz, te_qSetF, te_qAppend, te_qExtend, te_qPar, te_qE, te_qA, te_qT, te_qI, te_qF, te_qP, te_qS, te_mxNil, te_mxD, te_mxO, te_mpNil, te_mpD, te_mpO, te_gNames0, te_gNames1, te_sParM2, te_sParM3, te_sParMN, te_qParM2, te_qParM3, te_qParMN, te_fDNew, te_fDict, te_qfDict, te_qfLst, te_sDPut_, te_fRep, te_sIxPut, te_jZipM, te_xOrT, te_xAndT, te_qPar3, te_xDGetT, te_fDNewT, te_sDPutT, te_qDPutT, te_xLcK, to_poOpt, te_xCallG, te_xDNew, te_xDispV, te_xDispI
] <;> rfl))
abbrev s_is_name : Stmt := top 4
abbrev N_is_name : List Str := ["value", "letter"]
theorem sc_is_name : FnScope N_is_name ["value"] (defScope s_is_name) := ⟨rfl, rfl, rfl, by decide +kernel, rfl, by decide +kernel, by decide +kernel⟩
def b_is_name : Stx := (sSeq (sIf (tOr_ (tNot_ (tB_ (xFn mIsi (aCons (xVar 0) (aCons (xTy "str") aNil))))) (tNot_ (tTest_ (xChain mLe mLe (xInt 1) (xFn mLen (aCons (xVar 0) aNil)) (xInt 8))))) (sRet (xBl false)) sNext) (sRet (xFn mAll (aCons (xLc (jSeq (xVar 0)) (gName_ 1) tYes_ (xOp2 mIn (xVar 1) (xStr "abcdefghijklmnopqrstuvwxyz")) [1] (id rfl)) aNil))))
def m_is_name : List D → Option D := fnF N_is_name 1 b_is_name
theorem mE_is_name (a0 : D) : m_is_name [a0] = endOf (b_is_name.ev [.d a0, .any]) := id rfl
theorem ok_is_name (T : Txt mg) (TC : TxtC K) (sysb : SysB base) (Dd : DefIn K mg "is_name" s_is_name ["value"])  : Has P TheW.w K mg base 1 "is_name" ["value"] (spD K (CF m_is_name)) :=
  has_F2 (k := 0) Dd sc_is_name 1 rfl b_is_name (by repeat (first | exact trivial | exact TC.cl | refine And.intro ?_ ?_)) (fun f cdv B out t H E gu hr => (pss_cons (ps_if (PW.pt (pw_or (pt_not (pt_val (pe_callB (r_isi (K := K) rfl) (by rfl) T.n_isinstance (by decide +kernel) (pa_cons (pv 0) (pa_cons (pe_bltn (v := .ty "str") (by rfl) T.n_str (by decide +kernel) rfl) pa_nil))))) (pw_or1 (pt_not (pt_chain (r_le (K := K)) (r_le (K := K)) pe_int (pe_callB (r_len (K := K) rfl) (by rfl) T.n_len PySem.boot_len (pa_cons (pv 0) pa_nil)) (pe_gc T.c_MOST_LETTERS (by rfl))))))) (pss_one (ps_ret pe_bl)) pss_nil)
      (pss_one (ps_ret (pe_callB (r_all (K := K) rfl rfl) (by rfl) T.n_all (by decide +kernel) (pa_cons (pe_lc (own := [("letter", 1)]) rfl sc_is_name.nd (r_seq (K := K) rfl (pv 0)) (blkOk_by (own := [("letter", 1)]) (N := N_is_name) (sc := defScope s_is_name) (by decide +kernel)) (fun _ _ _ _ _ => (pg_name (i := 1) sc_is_name.nd rfl (Or.inl rfl))) (fun _ _ _ _ _ => pts_nil) (fun _ _ _ _ _ => (pe_cmpR (r_in (K := K) rfl) (pv 1) (pe_gc T.c_LETTERS (by rfl)) (by rfl)))) pa_nil)))))) (by unfold b_is_name; (simp only [List.map_cons, List.map_nil, te_xVar, te_xInt, te_xStr, te_xBl, te_xTy, te_xNon, te_aNil, te_aCons, te_xTup, te_xLst, te_xOp2, te_xUn, te_xFn, te_xCall, te_tB_, te_tTest_, te_tYes_, te_tNot_, te_tAnd_, te_tOr_, te_xAnd, te_xOr, te_xNot, te_xIf, te_xChain, te_poNone, te_poSome, te_gName_, te_gNil_, te_gCons_, te_gTup_, te_xLc, te_sNext, te_sSeq, te_sDrop, te_sRet, te_sRetN, te_sIf, te_sAsg, te_sBreak, te_sCont, te_sFor, te_sWhile, te_jSeq, te_jRange1, te_jRange2, te_xSl, te_xRevT, te_jZip, te_xPeek, te_tPeek, te_sNever, te_sFz, te_sOwn, te_fLst, te_fLc, te_fListT, te_sSetF, te_sAppend, te_sExtend, te_sPar, te_sAugI, te_xLc2, te_xFld, te_xMeth, te_xMake, te_sFld_, te_xDGet, te_xDIn, te_xDGet2, te_xDc, te_xValsKeys, te_xLenSet, te_xSortSet, te_jZip3, te_sParL, te_sPar3, te_jEnum1, te_jEnum2, te_qCons, te_qTup, te_qLst, te_qOp2, te_qUn, te_qFn, te_qCall, te_qDraw, te_qB, te_qTest, te_qNotT, te_qAndT, te_qOrT, te_qAnd, te_qOr, te_qNot, te_qIf, te_qChain, te_qPart, te_qSeqI, te_qRange1, te_qRange2, te_qLc, te_qfLc, te_qSeq, te_qDrop, te_qRet, te_qIfS, te_qAsg, te_qFor, te_qWhile, te_qFz, te_qSetF, te_qAppend, te_qExtend, te_qPar, te_qE, te_qA, te_qT, te_qI, te_qF, te_qP, te_qS, te_mxNil, te_mxD, te_mxO, te_mpNil, te_mpD, te_mpO, te_gNames0, te_gNames1, te_sParM2, te_sParM3, te_sParMN, te_qParM2, te_qParM3, te_qParMN, te_fDNew, te_fDict, te_qfDict, te_qfLst, te_sDPut_, te_fRep, te_sIxPut, te_jZipM, te_xOrT, te_xAndT, te_qPar3, te_xDGetT, te_fDNewT, te_sDPutT, te_qDPutT, te_xLcK, to_poOpt, te_xCallG, te_xDNew, te_xDispV, te_xDispI
] <;> rfl))
abbrev s_is_item : Stmt := top 9
abbrev N_is_item : List Str := ["value"]
theorem sc_is_item : FnScope N_is_item ["value"] (defScope s_is_item) := ⟨rfl, rfl, rfl, by decide +kernel, rfl, by decide +kernel, by decide +kernel⟩
def b_is_item : Stx := (sSeq (sIf (tOr_ (tNot_ (tB_ (xFn mIsi (aCons (xVar 0) (aCons (xTy "tuple") aNil))))) (tOr_ (tTest_ (xOp2 mNe (xFn mLen (aCons (xVar 0) aNil)) (xInt 3))) (tOr_ (tNot_ (tB_ (xFn mIsi (aCons (xOp2 mIx (xVar 0) (xInt 0)) (aCons (xTy "str") aNil))))) (tTest_ (xOp2 mNin (xOp2 mIx (xVar 0) (xInt 0)) (xTup (aCons (xStr "kind") (aCons (xStr "step") aNil)))))))) (sRet (xBl false)) sNext) (sRet (xAnd (xCall m_is_name (aCons (xOp2 mIx (xVar 0) (xInt 1)) aNil)) (xAnd (xCall m_is_integer (aCons (xOp2 mIx (xVar 0) (xInt 2)) aNil)) (xOp2 mNe (xOp2 mIx (xVar 0) (xInt 2)) (xInt 0))))))
def m_is_item : List D → Option D := fnF N_is_item 1 b_is_item
theorem mE_is_item (a0 : D) : m_is_item [a0] = endOf (b_is_item.ev [.d a0]) := id rfl
theorem ok_is_item (T : Txt mg) (TC : TxtC K) (sysb : SysB base) (Dd : DefIn K mg "is_item" s_is_item ["value"]) (h_is_integer : Has P TheW.w K mg base 1 "is_integer" ["value"] (spD K (CF m_is_integer))) (h_is_name : Has P TheW.w K mg base 1 "is_name" ["value"] (spD K (CF m_is_name))) : Has P TheW.w K mg base 2 "is_item" ["value"] (spD K (CF m_is_item)) :=
  has_F2 (k := 1) Dd sc_is_item 1 rfl b_is_item (by repeat (first | exact trivial | exact TC.cl | refine And.intro ?_ ?_)) (fun f cdv B out t H E gu hr => (pss_cons (ps_if (PW.pt (pw_or (pt_not (pt_val (pe_callB (r_isi (K := K) rfl) (by rfl) T.n_isinstance (by decide +kernel) (pa_cons (pv 0) (pa_cons (pe_bltn (v := .ty "tuple") (by rfl) T.n_tuple (by decide +kernel) rfl) pa_nil))))) (pw_or (pt_cmpR (r_ne (K := K) rfl hr.units) (pe_callB (r_len (K := K) rfl) (by rfl) T.n_len PySem.boot_len (pa_cons (pv 0) pa_nil)) pe_int (nomark _)) (pw_or (pt_not (pt_val (pe_callB (r_isi (K := K) rfl) (by rfl) T.n_isinstance (by decide +kernel) (pa_cons (pe_ix (r_ix (K := K) rfl) (pv 0) pe_int (fun _ _ => rfl)) (pa_cons (pe_bltn (v := .ty "str") (by rfl) T.n_str (by decide +kernel) rfl) pa_nil))))) (pw_or1 (pt_cmpR (r_nin (K := K) rfl) (pe_ix (r_ix (K := K) rfl) (pv 0) pe_int (fun _ _ => rfl)) (pe_tupP (pa_cons (pe_gc T.c_KIND (by rfl)) (pa_cons (pe_gc T.c_STEP (by rfl)) pa_nil))) (by rfl))))))) (pss_one (ps_ret pe_bl)) pss_nil)
      (pss_one (ps_ret (pe_and (pe_has h_is_name gu (hr.mono (by decide)) (by rfl) (pa_cons (pe_ix (r_ix (K := K) rfl) (pv 0) pe_int (fun _ _ => rfl)) pa_nil)) (pe_and (pe_has h_is_integer gu (hr.mono (by decide)) (by rfl) (pa_cons (pe_ix (r_ix (K := K) rfl) (pv 0) pe_int (fun _ _ => rfl)) pa_nil)) (pe_one (pe_cmpR (r_ne (K := K) rfl hr.units) (pe_ix (r_ix (K := K) rfl) (pv 0) pe_int (fun _ _ => rfl)) pe_int (nomark _))))))))) (by unfold b_is_item; (simp only [List.map_cons, List.map_nil, te_xVar, te_xInt, te_xStr, te_xBl, te_xTy, te_xNon, te_aNil, te_aCons, te_xTup, te_xLst, te_xOp2, te_xUn, te_xFn, te_xCall, te_tB_, te_tTest_, te_tYes_, te_tNot_, te_tAnd_, te_tOr_, te_xAnd, te_xOr, te_xNot, te_xIf, te_xChain, te_poNone, te_poSome, te_gName_, te_gNil_, te_gCons_, te_gTup_, te_xLc, te_sNext, te_sSeq, te_sDrop, te_sRet, te_sRetN, te_sIf, te_sAsg, te_sBreak, te_sCont, te_sFor, te_sWhile, te_jSeq, te_jRange1, te_jRange2, te_xSl, te_xRevT, te_jZip, te_xPeek, te_tPeek, te_sNever, te_sFz, te_sOwn, te_fLst, te_fLc, te_fListT, te_sSetF, te_sAppend, te_sExtend, te_sPar, te_sAugI, te_xLc2, te_xFld, te_xMeth, te_xMake, te_sFld_, te_xDGet, te_xDIn, te_xDGet2, te_xDc, te_xValsKeys, te_xLenSet, te_xSortSet, te_jZip3, te_sParL, te_sPar3, te_jEnum1, te_jEnum2, te_qCons, te_qTup, te_qLst, te_qOp2, te_qUn, te_qFn, te_qCall, te_qDraw, te_qB, te_qTest, te_qNotT, te_qAndT, te_qOrT, te_qAnd, te_qOr, te_qNot, te_qIf, te_qChain, te_qPart, te_qSeqI, te_qRange1, te_qRange2, te_qLc, te_qfLc, te_qSeq, te_qDrop, te_qRet, te_qIfS, te_qAsg, te_qFor, te_qWhile, te_qFz, te_qSetF, te_qAppend, te_qExtend, te_qPar, te_qE, te_qA, te_qT, te_qI, te_qF, te_qP, te_qS, te_mxNil, te_mxD, te_mxO, te_mpNil, te_mpD, te_mpO, te_gNames0, te_gNames1, te_sParM2, te_sParM3, te_sParMN, te_qParM2, te_qParM3, te_qParMN, te_fDNew, te_fDict, te_qfDict, te_qfLst, te_sDPut_, te_fRep, te_sIxPut, te_jZipM, te_xOrT, te_xAndT, te_qPar3, te_xDGetT, te_fDNewT, te_sDPutT, te_qDPutT, te_xLcK, to_poOpt, te_xCallG, te_xDNew, te_xDispV, te_xDispI
] <;> rfl))
abbrev s_is_ascending : Stmt := top 5
abbrev N_is_ascending : List Str := ["some", "one", "other"]
theorem sc_is_ascending : FnScope N_is_ascending ["some"] (defScope s_is_ascending) := ⟨rfl, rfl, rfl, by decide +kernel, rfl, by decide +kernel, by decide +kernel⟩
def b_is_ascending : Stx := (sRet (xFn mAll (aCons (xLc (jZip (aCons (xVar 0) (aCons (xSl mSl (xVar 0) (poSome (xInt 1)) poNone) aNil))) (gTup_ 2 (gCons_ (gName_ 1) (gCons_ (gName_ 2) gNil_))) tYes_ (xOp2 mLtX (xVar 1) (xVar 2)) [1, 2] (id rfl)) aNil)))
def m_is_ascending : List D → Option D := fnF N_is_ascending 1 b_is_ascending
theorem mE_is_ascending (a0 : D) : m_is_ascending [a0] = endOf (b_is_ascending.ev [.d a0, .any, .any]) := id rfl
theorem ok_is_ascending (T : Txt mg) (TC : TxtC K) (sysb : SysB base) (Dd : DefIn K mg "is_ascending" s_is_ascending ["some"])  : Has P TheW.w K mg base 1 "is_ascending" ["some"] (spD K (CF m_is_ascending)) :=
  has_F2 (k := 0) Dd sc_is_ascending 1 rfl b_is_ascending (by repeat (first | exact trivial | exact TC.cl | refine And.intro ?_ ?_)) (fun f cdv B out t H E gu hr => (pss_one (ps_ret (pe_callB (r_all (K := K) rfl rfl) (by rfl) T.n_all (by decide +kernel) (pa_cons (pe_lc (own := [("one", 1), ("other", 2)]) rfl sc_is_ascending.nd (k_zip (K := K) rfl (by rfl) T.n_zip (pa_cons (pv 0) (pa_cons (pe_slice (r_sl (K := K) rfl) (pv 0) (po_some pe_int) po_none) pa_nil))) (blkOk_by (own := [("one", 1), ("other", 2)]) (N := N_is_ascending) (sc := defScope s_is_ascending) (by decide +kernel)) (fun _ _ _ _ _ => (k_tgt (K := K) (n := 2) rfl rfl (pgs_cons (pg_name (i := 1) sc_is_ascending.nd rfl (Or.inl rfl)) (pgs_cons (pg_name (i := 2) sc_is_ascending.nd rfl (Or.inl rfl)) pgs_nil)))) (fun _ _ _ _ _ => pts_nil) (fun _ _ _ _ _ => (pe_cmpR (r_ltX (K := K) rfl hr.units) (pv 1) (pv 2) (nomark _)))) pa_nil))))) (by unfold b_is_ascending; (simp only [List.map_cons, List.map_nil, te_xVar, te_xInt, te_xStr, te_xBl, te_xTy, te_xNon, te_aNil, te_aCons, te_xTup, te_xLst, te_xOp2, te_xUn, te_xFn, te_xCall, te_tB_, te_tTest_, te_tYes_, te_tNot_, te_tAnd_, te_tOr_, te_xAnd, te_xOr, te_xNot, te_xIf, te_xChain, te_poNone, te_poSome, te_gName_, te_gNil_, te_gCons_, te_gTup_, te_xLc, te_sNext, te_sSeq, te_sDrop, te_sRet, te_sRetN, te_sIf, te_sAsg, te_sBreak, te_sCont, te_sFor, te_sWhile, te_jSeq, te_jRange1, te_jRange2, te_xSl, te_xRevT, te_jZip, te_xPeek, te_tPeek, te_sNever, te_sFz, te_sOwn, te_fLst, te_fLc, te_fListT, te_sSetF, te_sAppend, te_sExtend, te_sPar, te_sAugI, te_xLc2, te_xFld, te_xMeth, te_xMake, te_sFld_, te_xDGet, te_xDIn, te_xDGet2, te_xDc, te_xValsKeys, te_xLenSet, te_xSortSet, te_jZip3, te_sParL, te_sPar3, te_jEnum1, te_jEnum2, te_qCons, te_qTup, te_qLst, te_qOp2, te_qUn, te_qFn, te_qCall, te_qDraw, te_qB, te_qTest, te_qNotT, te_qAndT, te_qOrT, te_qAnd, te_qOr, te_qNot, te_qIf, te_qChain, te_qPart, te_qSeqI, te_qRange1, te_qRange2, te_qLc, te_qfLc, te_qSeq, te_qDrop, te_qRet, te_qIfS, te_qAsg, te_qFor, te_qWhile, te_qFz, te_qSetF, te_qAppend, te_qExtend, te_qPar, te_qE, te_qA, te_qT, te_qI, te_qF, te_qP, te_qS, te_mxNil, te_mxD, te_mxO, te_mpNil, te_mpD, te_mpO, te_gNames0, te_gNames1, te_sParM2, te_sParM3, te_sParMN, te_qParM2, te_qParM3, te_qParMN, te_fDNew, te_fDict, te_qfDict, te_qfLst, te_sDPut_, te_fRep, te_sIxPut, te_jZipM, te_xOrT, te_xAndT, te_qPar3, te_xDGetT, te_fDNewT, te_sDPutT, te_qDPutT, te_xLcK, to_poOpt, te_xCallG, te_xDNew, te_xDispV, te_xDispI
] <;> rfl))
abbrev s_is_question : Stmt := top 10
abbrev N_is_question : List Str := ["value", "one"]
theorem sc_is_question : FnScope N_is_question ["value"] (defScope s_is_question) := ⟨rfl, rfl, rfl, by decide +kernel, rfl, by decide +kernel, by decide +kernel⟩
def b_is_question : Stx := (sSeq (sIf (tOr_ (tNot_ (tB_ (xFn mIsi (aCons (xVar 0) (aCons (xTy "tuple") aNil))))) (tNot_ (tB_ (xFn mAll (aCons (xLc (jSeq (xVar 0)) (gName_ 1) tYes_ (xCall m_is_item (aCons (xVar 1) aNil)) [1] (id rfl)) aNil))))) (sRet (xBl false)) sNext) (sRet (xCall m_is_ascending (aCons (xLc (jSeq (xVar 0)) (gName_ 1) tYes_ (xSl mSl (xVar 1) poNone (poSome (xInt 2))) [1] (id rfl)) aNil))))
def m_is_question : List D → Option D := fnF N_is_question 1 b_is_question
theorem mE_is_question (a0 : D) : m_is_question [a0] = endOf (b_is_question.ev [.d a0, .any]) := id rfl
theorem ok_is_question (T : Txt mg) (TC : TxtC K) (sysb : SysB base) (Dd : DefIn K mg "is_question" s_is_question ["value"]) (h_is_item : Has P TheW.w K mg base 2 "is_item" ["value"] (spD K (CF m_is_item))) (h_is_ascending : Has P TheW.w K mg base 1 "is_ascending" ["some"] (spD K (CF m_is_ascending))) : Has P TheW.w K mg base 3 "is_question" ["value"] (spD K (CF m_is_question)) :=
  has_F2 (k := 2) Dd sc_is_question 1 rfl b_is_question (by repeat (first | exact trivial | exact TC.cl | refine And.intro ?_ ?_)) (fun f cdv B out t H E gu hr => (pss_cons (ps_if (PW.pt (pw_or (pt_not (pt_val (pe_callB (r_isi (K := K) rfl) (by rfl) T.n_isinstance (by decide +kernel) (pa_cons (pv 0) (pa_cons (pe_bltn (v := .ty "tuple") (by rfl) T.n_tuple (by decide +kernel) rfl) pa_nil))))) (pw_or1 (pt_not (pt_val (pe_callB (r_all (K := K) rfl rfl) (by rfl) T.n_all (by decide +kernel) (pa_cons (pe_lc (own := [("one", 1)]) rfl sc_is_question.nd (r_seq (K := K) rfl (pv 0)) (blkOk_by (own := [("one", 1)]) (N := N_is_question) (sc := defScope s_is_question) (by decide +kernel)) (fun _ _ _ _ _ => (pg_name (i := 1) sc_is_question.nd rfl (Or.inl rfl))) (fun _ _ _ _ _ => pts_nil) (fun _ _ _ _ _ => (pe_has h_is_item gu (hr.mono (by decide)) (by rfl) (pa_cons (pv 1) pa_nil)))) pa_nil))))))) (pss_one (ps_ret pe_bl)) pss_nil)
      (pss_one (ps_ret (pe_has h_is_ascending gu (hr.mono (by decide)) (by rfl) (pa_cons (pe_lc (own := [("one", 1)]) rfl sc_is_question.nd (r_seq (K := K) rfl (pv 0)) (blkOk_by (own := [("one", 1)]) (N := N_is_question) (sc := defScope s_is_question) (by decide +kernel)) (fun _ _ _ _ _ => (pg_name (i := 1) sc_is_question.nd rfl (Or.inl rfl))) (fun _ _ _ _ _ => pts_nil) (fun _ _ _ _ _ => (pe_slice (r_sl (K := K) rfl) (pv 1) po_none (po_some pe_int)))) pa_nil)))))) (by unfold b_is_question; (simp only [List.map_cons, List.map_nil, te_xVar, te_xInt, te_xStr, te_xBl, te_xTy, te_xNon, te_aNil, te_aCons, te_xTup, te_xLst, te_xOp2, te_xUn, te_xFn, te_xCall, te_tB_, te_tTest_, te_tYes_, te_tNot_, te_tAnd_, te_tOr_, te_xAnd, te_xOr, te_xNot, te_xIf, te_xChain, te_poNone, te_poSome, te_gName_, te_gNil_, te_gCons_, te_gTup_, te_xLc, te_sNext, te_sSeq, te_sDrop, te_sRet, te_sRetN, te_sIf, te_sAsg, te_sBreak, te_sCont, te_sFor, te_sWhile, te_jSeq, te_jRange1, te_jRange2, te_xSl, te_xRevT, te_jZip, te_xPeek, te_tPeek, te_sNever, te_sFz, te_sOwn, te_fLst, te_fLc, te_fListT, te_sSetF, te_sAppend, te_sExtend, te_sPar, te_sAugI, te_xLc2, te_xFld, te_xMeth, te_xMake, te_sFld_, te_xDGet, te_xDIn, te_xDGet2, te_xDc, te_xValsKeys, te_xLenSet, te_xSortSet, te_jZip3, te_sParL, te_sPar3, te_jEnum1, te_jEnum2, te_qCons, te_qTup, te_qLst, te_qOp2, te_qUn, te_qFn, te_qCall, te_qDraw, te_qB, te_qTest, te_qNotT, te_qAndT, te_qOrT, te_qAnd, te_qOr, te_qNot, te_qIf, te_qChain, te_qPart, te_qSeqI, te_qRange1, te_qRange2, te_qLc, te_qfLc, te_qSeq, te_qDrop, te_qRet, te_qIfS, te_qAsg, te_qFor, te_qWhile, te_qFz, te_qSetF, te_qAppend, te_qExtend, te_qPar, te_qE, te_qA, te_qT, te_qI, te_qF, te_qP, te_qS, te_mxNil, te_mxD, te_mxO, te_mpNil, te_mpD, te_mpO, te_gNames0, te_gNames1, te_sParM2, te_sParM3, te_sParMN, te_qParM2, te_qParM3, te_qParMN, te_fDNew, te_fDict, te_qfDict, te_qfLst, te_sDPut_, te_fRep, te_sIxPut, te_jZipM, te_xOrT, te_xAndT, te_qPar3, te_xDGetT, te_fDNewT, te_sDPutT, te_qDPutT, te_xLcK, to_poOpt, te_xCallG, te_xDNew, te_xDispV, te_xDispI
] <;> rfl))
end
end FR
namespace FR
open PySem PySem.Spec PyProof.Rows L2
variable [TheW]
local macro_rules | `(tactic| walk_at "ev") => `(tactic| simp only [ev_xDNew, ev_xDispV, ev_xDispI, wp_qPar3, ev_xDGetT, ev_fDNewT, ev_sDPutT, wp_qDPutT, ev_xLcK, ev_xCallG, ev_poOpt, sem_ltX, sem_ltXS, ev_xVar, ev_xInt, ev_xStr, ev_xBl, ev_xTy, ev_xNon, ev_aNil, ev_aCons, ev_xTup, ev_xLst, ev_xOp2, ev_xUn, ev_xFn, ev_xCall, ev_tB_, ev_tTest_, ev_tYes_, ev_tNot_, ev_tAnd_, ev_tOr_, ev_xAnd, ev_xOr, ev_xNot, ev_xIf, ev_xChain, ev_poNone, ev_poSome, ev_gName_, ev_gNil_, ev_gCons_, ev_gTup_, ev_xLc, ev_sNext, ev_sSeq, ev_sDrop, ev_sRet, ev_sRetN, ev_sIf, ev_sAsg, ev_sBreak, ev_sCont, ev_sFor, ev_sWhile, ev_jSeq, ev_jRange1, ev_jRange2, ev_xSl, ev_xRevT, ev_jZip, ev_xPeek, ev_tPeek, ev_sNever, ev_sFz, ev_sOwn, ev_fLst, ev_fLc, ev_fListT, ev_sSetF, ev_sAppend, ev_sExtend, ev_sPar, ev_sAugI, ev_xLc2, ev_xFld, ev_xMeth, ev_xMake, ev_sFld_, ev_xDGet, ev_xDIn, ev_xDGet2, ev_xDc, ev_xValsKeys, ev_xLenSet, ev_xSortSet, ev_jZip3, ev_sParL, ev_sPar3, wp_qE, wp_qA, wp_qT, wp_qI, wp_qF, wp_qP, wp_qS, wp_qCons, wp_qTup, wp_qLst, wp_qOp2, wp_qUn, wp_qFn, wp_qCall, wp_qDraw, wp_qB, wp_qTest, wp_qNotT, wp_qAndT, wp_qOrT, wp_qAnd, wp_qOr, wp_qNot, wp_qIf, wp_qChain, wp_qPart, wp_qSeqI, wp_qRange1, wp_qRange2, wp_qLc, wp_qfLc, wp_qSeq, wp_qDrop, wp_qRet, wp_qIfS, wp_qAsg, wp_qFor, wp_qWhile, wp_qFz, wp_qSetF, wp_qAppend, wp_qExtend, wp_qPar, ev_jEnum1, ev_jEnum2, wp_qParM2, wp_qParM3, wp_qParMN, ev_sParM2, ev_sParM3, ev_sParMN, ev_fDNew, ev_fDict, wp_qfDict, wp_qfLst, ev_sDPut_, ev_fRep, ev_sIxPut, ev_jZipM, ev_xOrT, ev_xAndT, tru_lst, tru_tup, tru_non, tru_bl, List.getElem?_cons_zero, List.getElem?_cons_succ, List.set_cons_zero, List.set_cons_succ, List.map_cons, List.map_nil, List.length_cons, List.length_nil, List.length_map, Option.bind_some, Option.bind_none, atEnv_d, ownAt_o, blOf_b, inOf_i, lstOf_l, hide_d, hide_any, hide_own, hide_pot, frz_d, frz_any, frz_own, frz_pot, wipeE, when_t, when_f, end_rt, end_nx, Bool.not_true, Bool.not_false, lc1, Nat.zero_add, Nat.reduceAdd, Int.cast_ofNat_Int, beq_self_eq_true, Int.reduceBEq, Int.reduceLE, Int.reduceLT, decide_true, decide_false, Int.reduceNeg, Nat.reduceBEq, Bool.and_true, Bool.true_and, Bool.and_false, Bool.false_and, insOf_s, dctOf_d, keyOf_s, keyOf_i, unown, freeAt, ownAt_a, ownAt_dd, ownAt_p, blt_dec, Nat.reduceLT, Option.isNone_none, Option.isNone_some, fzAt, mpEv, parEnv, unowns, ex_some, ex_int, ex_two, ex_lst, at_nx, at_rt, isNon_i, isNon_s, isNon_n, true_and, and_true, nbeq, at0, at1, at2, sz0, sz1, sz2, sz3, sz4, sz5, sz6, sz7, sz8, bools_map, wholes_map, texts_map, all_id, any_id, sem_lt, sem_le, sem_gt, sem_ge, sem_ltS, sem_leS, sem_add, sem_addT, sem_addL, sem_sub, sem_mul, sem_mod, sem_div, sem_neg, sem_is, sem_isnt, sem_eqI, sem_neI, sem_eqS, sem_neS, sem_eqB, sem_lenT, sem_lenL, sem_lenS, sem_tupL, sem_tupT, sem_lstT, sem_lstL, sem_intI, sem_intB, sem_all, sem_any, sem_sum, sem_min, sem_max, sem_ixT, sem_ixL, sem_ixS, sem_repr, sem_slT, sem_slL, items_T, items_L, items_S, isi_int_int, isi_int_bool, isi_int_str, isi_int_tuple, isi_int_list, isi_int_dict, isi_bl_int, isi_bl_bool, isi_bl_str, isi_bl_tuple, isi_bl_list, isi_bl_dict, isi_str_int, isi_str_bool, isi_str_str, isi_str_tuple, isi_str_list, isi_str_dict, isi_tup_int, isi_tup_bool, isi_tup_str, isi_tup_tuple, isi_tup_list, isi_tup_dict, isi_lst_int, isi_lst_bool, isi_lst_str, isi_lst_tuple, isi_lst_list, isi_lst_dict, isi_non_int, isi_non_bool, isi_non_str, isi_non_tuple, isi_non_list, isi_non_dict, isi_dct_int, isi_dct_bool, isi_dct_str, isi_dct_tuple, isi_dct_list, isi_dct_dict])
local macro_rules | `(tactic| walk_at "evh") => `(tactic| simp only [*, ev_xDNew, ev_xDispV, ev_xDispI, wp_qPar3, ev_xDGetT, ev_fDNewT, ev_sDPutT, wp_qDPutT, ev_xLcK, ev_xCallG, ev_poOpt, sem_ltX, sem_ltXS, ev_xVar, ev_xInt, ev_xStr, ev_xBl, ev_xTy, ev_xNon, ev_aNil, ev_aCons, ev_xTup, ev_xLst, ev_xOp2, ev_xUn, ev_xFn, ev_xCall, ev_tB_, ev_tTest_, ev_tYes_, ev_tNot_, ev_tAnd_, ev_tOr_, ev_xAnd, ev_xOr, ev_xNot, ev_xIf, ev_xChain, ev_poNone, ev_poSome, ev_gName_, ev_gNil_, ev_gCons_, ev_gTup_, ev_xLc, ev_sNext, ev_sSeq, ev_sDrop, ev_sRet, ev_sRetN, ev_sIf, ev_sAsg, ev_sBreak, ev_sCont, ev_sFor, ev_sWhile, ev_jSeq, ev_jRange1, ev_jRange2, ev_xSl, ev_xRevT, ev_jZip, ev_xPeek, ev_tPeek, ev_sNever, ev_sFz, ev_sOwn, ev_fLst, ev_fLc, ev_fListT, ev_sSetF, ev_sAppend, ev_sExtend, ev_sPar, ev_sAugI, ev_xLc2, ev_xFld, ev_xMeth, ev_xMake, ev_sFld_, ev_xDGet, ev_xDIn, ev_xDGet2, ev_xDc, ev_xValsKeys, ev_xLenSet, ev_xSortSet, ev_jZip3, ev_sParL, ev_sPar3, wp_qE, wp_qA, wp_qT, wp_qI, wp_qF, wp_qP, wp_qS, wp_qCons, wp_qTup, wp_qLst, wp_qOp2, wp_qUn, wp_qFn, wp_qCall, wp_qDraw, wp_qB, wp_qTest, wp_qNotT, wp_qAndT, wp_qOrT, wp_qAnd, wp_qOr, wp_qNot, wp_qIf, wp_qChain, wp_qPart, wp_qSeqI, wp_qRange1, wp_qRange2, wp_qLc, wp_qfLc, wp_qSeq, wp_qDrop, wp_qRet, wp_qIfS, wp_qAsg, wp_qFor, wp_qWhile, wp_qFz, wp_qSetF, wp_qAppend, wp_qExtend, wp_qPar, ev_jEnum1, ev_jEnum2, wp_qParM2, wp_qParM3, wp_qParMN, ev_sParM2, ev_sParM3, ev_sParMN, ev_fDNew, ev_fDict, wp_qfDict, wp_qfLst, ev_sDPut_, ev_fRep, ev_sIxPut, ev_jZipM, ev_xOrT, ev_xAndT, tru_lst, tru_tup, tru_non, tru_bl, List.getElem?_cons_zero, List.getElem?_cons_succ, List.set_cons_zero, List.set_cons_succ, List.map_cons, List.map_nil, List.length_cons, List.length_nil, List.length_map, Option.bind_some, Option.bind_none, atEnv_d, ownAt_o, blOf_b, inOf_i, lstOf_l, hide_d, hide_any, hide_own, hide_pot, frz_d, frz_any, frz_own, frz_pot, wipeE, when_t, when_f, end_rt, end_nx, Bool.not_true, Bool.not_false, lc1, Nat.zero_add, Nat.reduceAdd, Int.cast_ofNat_Int, beq_self_eq_true, Int.reduceBEq, Int.reduceLE, Int.reduceLT, decide_true, decide_false, Int.reduceNeg, Nat.reduceBEq, Bool.and_true, Bool.true_and, Bool.and_false, Bool.false_and, insOf_s, dctOf_d, keyOf_s, keyOf_i, unown, freeAt, ownAt_a, ownAt_dd, ownAt_p, blt_dec, Nat.reduceLT, Option.isNone_none, Option.isNone_some, fzAt, mpEv, parEnv, unowns, ex_some, ex_int, ex_two, ex_lst, at_nx, at_rt, isNon_i, isNon_s, isNon_n, true_and, and_true, nbeq, at0, at1, at2, sz0, sz1, sz2, sz3, sz4, sz5, sz6, sz7, sz8, bools_map, wholes_map, texts_map, all_id, any_id, sem_lt, sem_le, sem_gt, sem_ge, sem_ltS, sem_leS, sem_add, sem_addT, sem_addL, sem_sub, sem_mul, sem_mod, sem_div, sem_neg, sem_is, sem_isnt, sem_eqI, sem_neI, sem_eqS, sem_neS, sem_eqB, sem_lenT, sem_lenL, sem_lenS, sem_tupL, sem_tupT, sem_lstT, sem_lstL, sem_intI, sem_intB, sem_all, sem_any, sem_sum, sem_min, sem_max, sem_ixT, sem_ixL, sem_ixS, sem_repr, sem_slT, sem_slL, items_T, items_L, items_S, isi_int_int, isi_int_bool, isi_int_str, isi_int_tuple, isi_int_list, isi_int_dict, isi_bl_int, isi_bl_bool, isi_bl_str, isi_bl_tuple, isi_bl_list, isi_bl_dict, isi_str_int, isi_str_bool, isi_str_str, isi_str_tuple, isi_str_list, isi_str_dict, isi_tup_int, isi_tup_bool, isi_tup_str, isi_tup_tuple, isi_tup_list, isi_tup_dict, isi_lst_int, isi_lst_bool, isi_lst_str, isi_lst_tuple, isi_lst_list, isi_lst_dict, isi_non_int, isi_non_bool, isi_non_str, isi_non_tuple, isi_non_list, isi_non_dict, isi_dct_int, isi_dct_bool, isi_dct_str, isi_dct_tuple, isi_dct_list, isi_dct_dict])

/-! ## forms -/
def letterQ (c : Nat) : Bool := decide (c ∈ ("abcdefghijklmnopqrstuvwxyz" : Str).cps.toList)
def okName (x : Str) : Bool := decide (1 ≤ x.length) && decide (x.length ≤ 8) && x.cps.toList.all letterQ
theorem m_integer_int (i : Int) : m_is_integer [.int i] = some (.bl true) := rfl
theorem m_integer_str (i : Str) : m_is_integer [.str i] = some (.bl false) := rfl
theorem m_integer_non : m_is_integer [.non] = some (.bl false) := rfl
theorem sem_inS (c : Nat) (z : Str) : mIn.f (.str ⟨#[c]⟩) (.str z) = some (.bl (decide (c ∈ z.cps.toList))) := rfl
theorem signs_def (z : Str) : signs z = z.cps.toList.map fun c => D.str ⟨#[c]⟩ := rfl
theorem signs_len (z : Str) : (signs z).length = z.length := by rw [signs_def, List.length_map, Array.length_toList]; rfl
theorem m_name_str {x : Str} (h1 : 1 ≤ x.length) (h8 : x.length ≤ 8) : m_is_name [.str x] = some (.bl (okName x)) := by
  have e1 : decide ((1 : Int) ≤ x.length) = true := decide_eq_true (by omega)
  have e8 : decide ((x.length : Int) ≤ 8) = true := decide_eq_true (by omega)
  have ez : szOk x.length = true := szOk_of (by omega)
  have es : szOk (signs x).length = true := szOk_of (by rw [signs_len]; omega)
  have eo : okName x = x.cps.toList.all letterQ := by unfold okName; rw [decide_eq_true h1, decide_eq_true h8]; rfl
  rw [mE_is_name, eo]
  unfold b_is_name
  walk_at "evh"
  rw [signs_def, goLc_map (f := fun c => .bl (letterQ c)) fun c _ => by walk_at "ev"; rw [sem_inS]; rfl]
  walk_at "ev"
theorem name_ok {x : Str} (h : okName x = true) : m_is_name [.str x] = some (.bl true) := by
  have h' := h
  unfold okName at h'
  rw [Bool.and_eq_true, Bool.and_eq_true, decide_eq_true_eq, decide_eq_true_eq] at h'
  rw [m_name_str h'.1.1 h'.1.2, h]
end FR
namespace FR
open PySem PySem.Spec PyProof.Rows L2
variable [TheW]
local macro_rules | `(tactic| walk_at "ev") => `(tactic| simp only [ev_xDNew, ev_xDispV, ev_xDispI, wp_qPar3, ev_xDGetT, ev_fDNewT, ev_sDPutT, wp_qDPutT, ev_xLcK, ev_xCallG, ev_poOpt, sem_ltX, sem_ltXS, ev_xVar, ev_xInt, ev_xStr, ev_xBl, ev_xTy, ev_xNon, ev_aNil, ev_aCons, ev_xTup, ev_xLst, ev_xOp2, ev_xUn, ev_xFn, ev_xCall, ev_tB_, ev_tTest_, ev_tYes_, ev_tNot_, ev_tAnd_, ev_tOr_, ev_xAnd, ev_xOr, ev_xNot, ev_xIf, ev_xChain, ev_poNone, ev_poSome, ev_gName_, ev_gNil_, ev_gCons_, ev_gTup_, ev_xLc, ev_sNext, ev_sSeq, ev_sDrop, ev_sRet, ev_sRetN, ev_sIf, ev_sAsg, ev_sBreak, ev_sCont, ev_sFor, ev_sWhile, ev_jSeq, ev_jRange1, ev_jRange2, ev_xSl, ev_xRevT, ev_jZip, ev_xPeek, ev_tPeek, ev_sNever, ev_sFz, ev_sOwn, ev_fLst, ev_fLc, ev_fListT, ev_sSetF, ev_sAppend, ev_sExtend, ev_sPar, ev_sAugI, ev_xLc2, ev_xFld, ev_xMeth, ev_xMake, ev_sFld_, ev_xDGet, ev_xDIn, ev_xDGet2, ev_xDc, ev_xValsKeys, ev_xLenSet, ev_xSortSet, ev_jZip3, ev_sParL, ev_sPar3, wp_qE, wp_qA, wp_qT, wp_qI, wp_qF, wp_qP, wp_qS, wp_qCons, wp_qTup, wp_qLst, wp_qOp2, wp_qUn, wp_qFn, wp_qCall, wp_qDraw, wp_qB, wp_qTest, wp_qNotT, wp_qAndT, wp_qOrT, wp_qAnd, wp_qOr, wp_qNot, wp_qIf, wp_qChain, wp_qPart, wp_qSeqI, wp_qRange1, wp_qRange2, wp_qLc, wp_qfLc, wp_qSeq, wp_qDrop, wp_qRet, wp_qIfS, wp_qAsg, wp_qFor, wp_qWhile, wp_qFz, wp_qSetF, wp_qAppend, wp_qExtend, wp_qPar, ev_jEnum1, ev_jEnum2, wp_qParM2, wp_qParM3, wp_qParMN, ev_sParM2, ev_sParM3, ev_sParMN, ev_fDNew, ev_fDict, wp_qfDict, wp_qfLst, ev_sDPut_, ev_fRep, ev_sIxPut, ev_jZipM, ev_xOrT, ev_xAndT, tru_lst, tru_tup, tru_non, tru_bl, List.getElem?_cons_zero, List.getElem?_cons_succ, List.set_cons_zero, List.set_cons_succ, List.map_cons, List.map_nil, List.length_cons, List.length_nil, List.length_map, Option.bind_some, Option.bind_none, atEnv_d, ownAt_o, blOf_b, inOf_i, lstOf_l, hide_d, hide_any, hide_own, hide_pot, frz_d, frz_any, frz_own, frz_pot, wipeE, when_t, when_f, end_rt, end_nx, Bool.not_true, Bool.not_false, lc1, Nat.zero_add, Nat.reduceAdd, Int.cast_ofNat_Int, beq_self_eq_true, Int.reduceBEq, Int.reduceLE, Int.reduceLT, decide_true, decide_false, Int.reduceNeg, Nat.reduceBEq, Bool.and_true, Bool.true_and, Bool.and_false, Bool.false_and, insOf_s, dctOf_d, keyOf_s, keyOf_i, unown, freeAt, ownAt_a, ownAt_dd, ownAt_p, blt_dec, Nat.reduceLT, Option.isNone_none, Option.isNone_some, fzAt, mpEv, parEnv, unowns, ex_some, ex_int, ex_two, ex_lst, at_nx, at_rt, isNon_i, isNon_s, isNon_n, true_and, and_true, nbeq, at0, at1, at2, sz0, sz1, sz2, sz3, sz4, sz5, sz6, sz7, sz8, bools_map, wholes_map, texts_map, all_id, any_id, sem_lt, sem_le, sem_gt, sem_ge, sem_ltS, sem_leS, sem_add, sem_addT, sem_addL, sem_sub, sem_mul, sem_mod, sem_div, sem_neg, sem_is, sem_isnt, sem_eqI, sem_neI, sem_eqS, sem_neS, sem_eqB, sem_lenT, sem_lenL, sem_lenS, sem_tupL, sem_tupT, sem_lstT, sem_lstL, sem_intI, sem_intB, sem_all, sem_any, sem_sum, sem_min, sem_max, sem_ixT, sem_ixL, sem_ixS, sem_repr, sem_slT, sem_slL, items_T, items_L, items_S, isi_int_int, isi_int_bool, isi_int_str, isi_int_tuple, isi_int_list, isi_int_dict, isi_bl_int, isi_bl_bool, isi_bl_str, isi_bl_tuple, isi_bl_list, isi_bl_dict, isi_str_int, isi_str_bool, isi_str_str, isi_str_tuple, isi_str_list, isi_str_dict, isi_tup_int, isi_tup_bool, isi_tup_str, isi_tup_tuple, isi_tup_list, isi_tup_dict, isi_lst_int, isi_lst_bool, isi_lst_str, isi_lst_tuple, isi_lst_list, isi_lst_dict, isi_non_int, isi_non_bool, isi_non_str, isi_non_tuple, isi_non_list, isi_non_dict, isi_dct_int, isi_dct_bool, isi_dct_str, isi_dct_tuple, isi_dct_list, isi_dct_dict])
local macro_rules | `(tactic| walk_at "evh") => `(tactic| simp only [*, ev_xDNew, ev_xDispV, ev_xDispI, wp_qPar3, ev_xDGetT, ev_fDNewT, ev_sDPutT, wp_qDPutT, ev_xLcK, ev_xCallG, ev_poOpt, sem_ltX, sem_ltXS, ev_xVar, ev_xInt, ev_xStr, ev_xBl, ev_xTy, ev_xNon, ev_aNil, ev_aCons, ev_xTup, ev_xLst, ev_xOp2, ev_xUn, ev_xFn, ev_xCall, ev_tB_, ev_tTest_, ev_tYes_, ev_tNot_, ev_tAnd_, ev_tOr_, ev_xAnd, ev_xOr, ev_xNot, ev_xIf, ev_xChain, ev_poNone, ev_poSome, ev_gName_, ev_gNil_, ev_gCons_, ev_gTup_, ev_xLc, ev_sNext, ev_sSeq, ev_sDrop, ev_sRet, ev_sRetN, ev_sIf, ev_sAsg, ev_sBreak, ev_sCont, ev_sFor, ev_sWhile, ev_jSeq, ev_jRange1, ev_jRange2, ev_xSl, ev_xRevT, ev_jZip, ev_xPeek, ev_tPeek, ev_sNever, ev_sFz, ev_sOwn, ev_fLst, ev_fLc, ev_fListT, ev_sSetF, ev_sAppend, ev_sExtend, ev_sPar, ev_sAugI, ev_xLc2, ev_xFld, ev_xMeth, ev_xMake, ev_sFld_, ev_xDGet, ev_xDIn, ev_xDGet2, ev_xDc, ev_xValsKeys, ev_xLenSet, ev_xSortSet, ev_jZip3, ev_sParL, ev_sPar3, wp_qE, wp_qA, wp_qT, wp_qI, wp_qF, wp_qP, wp_qS, wp_qCons, wp_qTup, wp_qLst, wp_qOp2, wp_qUn, wp_qFn, wp_qCall, wp_qDraw, wp_qB, wp_qTest, wp_qNotT, wp_qAndT, wp_qOrT, wp_qAnd, wp_qOr, wp_qNot, wp_qIf, wp_qChain, wp_qPart, wp_qSeqI, wp_qRange1, wp_qRange2, wp_qLc, wp_qfLc, wp_qSeq, wp_qDrop, wp_qRet, wp_qIfS, wp_qAsg, wp_qFor, wp_qWhile, wp_qFz, wp_qSetF, wp_qAppend, wp_qExtend, wp_qPar, ev_jEnum1, ev_jEnum2, wp_qParM2, wp_qParM3, wp_qParMN, ev_sParM2, ev_sParM3, ev_sParMN, ev_fDNew, ev_fDict, wp_qfDict, wp_qfLst, ev_sDPut_, ev_fRep, ev_sIxPut, ev_jZipM, ev_xOrT, ev_xAndT, tru_lst, tru_tup, tru_non, tru_bl, List.getElem?_cons_zero, List.getElem?_cons_succ, List.set_cons_zero, List.set_cons_succ, List.map_cons, List.map_nil, List.length_cons, List.length_nil, List.length_map, Option.bind_some, Option.bind_none, atEnv_d, ownAt_o, blOf_b, inOf_i, lstOf_l, hide_d, hide_any, hide_own, hide_pot, frz_d, frz_any, frz_own, frz_pot, wipeE, when_t, when_f, end_rt, end_nx, Bool.not_true, Bool.not_false, lc1, Nat.zero_add, Nat.reduceAdd, Int.cast_ofNat_Int, beq_self_eq_true, Int.reduceBEq, Int.reduceLE, Int.reduceLT, decide_true, decide_false, Int.reduceNeg, Nat.reduceBEq, Bool.and_true, Bool.true_and, Bool.and_false, Bool.false_and, insOf_s, dctOf_d, keyOf_s, keyOf_i, unown, freeAt, ownAt_a, ownAt_dd, ownAt_p, blt_dec, Nat.reduceLT, Option.isNone_none, Option.isNone_some, fzAt, mpEv, parEnv, unowns, ex_some, ex_int, ex_two, ex_lst, at_nx, at_rt, isNon_i, isNon_s, isNon_n, true_and, and_true, nbeq, at0, at1, at2, sz0, sz1, sz2, sz3, sz4, sz5, sz6, sz7, sz8, bools_map, wholes_map, texts_map, all_id, any_id, sem_lt, sem_le, sem_gt, sem_ge, sem_ltS, sem_leS, sem_add, sem_addT, sem_addL, sem_sub, sem_mul, sem_mod, sem_div, sem_neg, sem_is, sem_isnt, sem_eqI, sem_neI, sem_eqS, sem_neS, sem_eqB, sem_lenT, sem_lenL, sem_lenS, sem_tupL, sem_tupT, sem_lstT, sem_lstL, sem_intI, sem_intB, sem_all, sem_any, sem_sum, sem_min, sem_max, sem_ixT, sem_ixL, sem_ixS, sem_repr, sem_slT, sem_slL, items_T, items_L, items_S, isi_int_int, isi_int_bool, isi_int_str, isi_int_tuple, isi_int_list, isi_int_dict, isi_bl_int, isi_bl_bool, isi_bl_str, isi_bl_tuple, isi_bl_list, isi_bl_dict, isi_str_int, isi_str_bool, isi_str_str, isi_str_tuple, isi_str_list, isi_str_dict, isi_tup_int, isi_tup_bool, isi_tup_str, isi_tup_tuple, isi_tup_list, isi_tup_dict, isi_lst_int, isi_lst_bool, isi_lst_str, isi_lst_tuple, isi_lst_list, isi_lst_dict, isi_non_int, isi_non_bool, isi_non_str, isi_non_tuple, isi_non_list, isi_non_dict, isi_dct_int, isi_dct_bool, isi_dct_str, isi_dct_tuple, isi_dct_list, isi_dct_dict])

theorem cut1 (xs : List D) : cutD xs (some 1) none = xs.drop 1 := by
  unfold cutD HT.sIx
  cases xs with
  | nil => rfl
  | cons x xs => simp; try omega
def ascB (ks : List Str) : Bool := (ks.zip (ks.drop 1)).all fun p => ltB p.1 p.2
theorem zip_txt (ks ls : List Str) : zipD (ks.map D.str) (ls.map D.str) = (ks.zip ls).map fun p => D.tpk [.str p.1, .str p.2] := by
  unfold zipD
  rw [List.zip_map, List.map_map]
  rfl
theorem asc_tup {ks : List Str} (hl : ks.length ≤ 1000000) : m_is_ascending [.tup (ks.map .str)] = some (.bl (ascB ks)) := by
  have ez : szOk (ks.zip (ks.drop 1)).length = true := szOk_of (by rw [List.length_zip]; omega)
  rw [mE_is_ascending]
  unfold b_is_ascending
  walk_at "ev"
  rw [cut1, ← List.map_drop, zip_txt, List.length_map, ez]
  rw [goLc_map (f := fun p => .bl (ltB p.1 p.2)) fun c _ => by walk_at "ev"]
  walk_at "ev"
  try rfl
theorem asc_lst {ks : List Str} (hl : ks.length ≤ 1000000) : m_is_ascending [.lst (ks.map .str)] = some (.bl (ascB ks)) := by
  have ez : szOk (ks.zip (ks.drop 1)).length = true := szOk_of (by rw [List.length_zip]; omega)
  rw [mE_is_ascending]
  unfold b_is_ascending
  walk_at "ev"
  rw [cut1, ← List.map_drop, zip_txt, List.length_map, ez]
  rw [goLc_map (f := fun p => .bl (ltB p.1 p.2)) fun c _ => by walk_at "ev"]
  walk_at "ev"
  try rfl
/-! ## what can be compared -/
theorem letter_lt {c : Nat} (h : letterQ c = true) : 97 ≤ c ∧ c ≤ 122 := by
  have h2 := of_decide_eq_true h
  have h3 : ∀ c ∈ ("abcdefghijklmnopqrstuvwxyz" : Str).cps.toList, 97 ≤ c ∧ c ≤ 122 := by decide +kernel
  exact h3 c h2
theorem okName_all {x : Str} (h : okName x = true) : ∀ c ∈ x.cps.toList, 97 ≤ c ∧ c ≤ 122 := by
  unfold okName at h
  rw [Bool.and_eq_true] at h
  exact fun c hc => letter_lt (List.all_eq_true.mp h.2 c hc)
theorem okName_len {x : Str} (h : okName x = true) : 1 ≤ x.length ∧ x.length ≤ 8 := by
  unfold okName at h
  rw [Bool.and_eq_true, Bool.and_eq_true, decide_eq_true_eq, decide_eq_true_eq] at h
  exact h.1
theorem okName_lay {x : Str} (h : okName x = true) : (PyData.str x).canLay0 = true := by
  have ha := okName_all h
  simp only [PyData.canLay0]
  show x.cps.all (fun c => decide (c < 0x110000)) = true
  rw [← Array.all_toList, List.all_eq_true]
  intro c hc
  have := ha c hc
  exact decide_eq_true (by omega)
/-- may be compared, no deeper than k -/
def layK (k : Nat) (x : D) : Prop := noDct x = true ∧ (py x).canLay0 = true ∧ (py x).depth ≤ k
theorem layK.mono {k j : Nat} {x : D} (h : layK k x) (l : k ≤ j) : layK j x := ⟨h.1, h.2.1, Nat.le_trans h.2.2 l⟩
theorem layK_str {x : Str} (h : okName x = true) : layK 0 (.str x) := ⟨rfl, okName_lay h, Nat.le_refl _⟩
theorem layK_int (i : Int) : layK 0 (.int i) := ⟨rfl, by show (PyData.int i).canLay0 = true; simp only [PyData.canLay0], Nat.le_refl _⟩
theorem layK_non : layK 0 .non := ⟨rfl, by show (PyData.none).canLay0 = true; simp only [PyData.canLay0], Nat.le_refl _⟩
theorem layK_L {k : Nat} : ∀ {xs : List D}, (∀ x ∈ xs, layK k x) → noDctL xs = true ∧ PyData.canLayAll0 (pyL xs) = true ∧ PyData.depthAll (pyL xs) ≤ k
  | [], _ => ⟨rfl, by rw [pyL, PyData.canLayAll0], by rw [pyL, PyData.depthAll]; exact Nat.zero_le _⟩
  | x :: xs, h => by
    obtain ⟨a1, a2, a3⟩ := h x (by simp)
    obtain ⟨b1, b2, b3⟩ := layK_L fun y hy => h y (List.mem_cons_of_mem _ hy)
    refine ⟨by rw [noDctL, a1, b1]; rfl, by rw [pyL, PyData.canLayAll0, a2, b2]; rfl, ?_⟩
    rw [pyL, PyData.depthAll]
    exact Nat.max_le.mpr ⟨a3, b3⟩
theorem layK_tup {k : Nat} {xs : List D} (h : ∀ x ∈ xs, layK k x) : layK (k + 1) (.tup xs) := by
  obtain ⟨b1, b2, b3⟩ := layK_L h
  refine ⟨by rw [noDct, b1], by rw [py, PyData.canLay0, b2], ?_⟩
  rw [py, PyData.depth]
  omega
theorem layK.lay {k : Nat} {x : D} (h : layK k x) (hk : k ≤ 64) : layD x = true := by
  unfold layD
  rw [h.1, decide_eq_true (Nat.le_trans h.2.2 hk)]
  rfl
theorem layK_strs {ks : List Str} (h : ks.all okName = true) : layK 1 (.tup (ks.map .str)) := layK_tup fun x hx => by
  obtain ⟨z, hz, rfl⟩ := List.mem_map.mp hx
  exact layK_str (List.all_eq_true.mp h z hz)
theorem unit_lay : layD (.tup []) = true := rfl
theorem ne_unit {xs : List D} (h : layD (.tup xs) = true) : mNe.f (.tup xs) (.tup []) = some (.bl (!xs.isEmpty)) := by
  show orElse_ none (when (layD (.tup xs) && layD (.tup [])) (some (D.bl (!eqX (.tup xs) (.tup []))))) = _
  rw [h, unit_lay]
  show some (D.bl (!eqX (.tup xs) (.tup []))) = _
  cases xs with
  | nil => rfl
  | cons x xs =>
    unfold eqX
    rw [py, pyL, py, pyL, PyData.eqv, PyData.eqvAll]
    rfl
theorem eq_unit {xs : List D} (h : layD (.tup xs) = true) : mEq.f (.tup xs) (.tup []) = some (.bl xs.isEmpty) := by
  show orElse_ none (when (layD (.tup xs) && layD (.tup [])) (some (D.bl (eqX (.tup xs) (.tup []))))) = _
  rw [h, unit_lay]
  show some (D.bl (eqX (.tup xs) (.tup []))) = _
  cases xs with
  | nil => rfl
  | cons x xs =>
    unfold eqX
    rw [py, pyL, py, pyL, PyData.eqv, PyData.eqvAll]
    rfl
theorem in_strs (x : Str) : ∀ ks : List Str, inD (.str x) (ks.map D.str) = ks.elem x
  | [] => rfl
  | k :: ks => by
    have ih := in_strs x ks
    unfold inD at ih ⊢
    rw [List.map_cons, List.any_cons, ih]
    show (k == x || ks.elem x) = (k :: ks).elem x
    rw [List.elem_cons, Bool.beq_comm]
    cases x == k <;> rfl
theorem flat_strs (ks : List Str) : (ks.map D.str).all flatD = true := by
  rw [List.all_eq_true]
  intro x hx
  obtain ⟨z, _, rfl⟩ := List.mem_map.mp hx
  rfl
theorem sem_inT (x : Str) (ks : List Str) : mIn.f (.str x) (.tup (ks.map D.str)) = some (.bl (ks.elem x)) := by
  show orElse_ (when (flatD (.str x) && (ks.map D.str).all flatD) (some (D.bl (inD (.str x) (ks.map D.str))))) _ = _
  rw [flat_strs, in_strs]
  rfl
theorem sem_inL (x : Str) (ks : List Str) : mIn.f (.str x) (.lst (ks.map D.str)) = some (.bl (ks.elem x)) := by
  show orElse_ (when (flatD (.str x) && (ks.map D.str).all flatD) (some (D.bl (inD (.str x) (ks.map D.str))))) _ = _
  rw [flat_strs, in_strs]
  rfl
theorem sem_inN (ks : List Str) : mIn.f .non (.tup (ks.map D.str)) = some (.bl false) := by
  have e : inD .non (ks.map D.str) = false := by
    unfold inD
    rw [List.any_eq_false]
    intro x hx
    obtain ⟨z, _, rfl⟩ := List.mem_map.mp hx
    exact fun z => by cases z
  show orElse_ (when (flatD .non && (ks.map D.str).all flatD) (some (D.bl (inD .non (ks.map D.str))))) _ = _
  rw [flat_strs, e]
  rfl
theorem sem_ninT (x : Str) (ks : List Str) : mNin.f (.str x) (.tup (ks.map D.str)) = some (.bl (!ks.elem x)) := by
  show when (flatD (.str x) && (ks.map D.str).all flatD) (some (D.bl (!inD (.str x) (ks.map D.str)))) = _
  rw [flat_strs, in_strs]
  rfl
end FR
namespace FR
open PySem PySem.Spec PyProof.Rows L2
variable [TheW]
local macro_rules | `(tactic| walk_at "ev") => `(tactic| simp only [ev_xDNew, ev_xDispV, ev_xDispI, wp_qPar3, ev_xDGetT, ev_fDNewT, ev_sDPutT, wp_qDPutT, ev_xLcK, ev_xCallG, ev_poOpt, sem_ltX, sem_ltXS, ev_xVar, ev_xInt, ev_xStr, ev_xBl, ev_xTy, ev_xNon, ev_aNil, ev_aCons, ev_xTup, ev_xLst, ev_xOp2, ev_xUn, ev_xFn, ev_xCall, ev_tB_, ev_tTest_, ev_tYes_, ev_tNot_, ev_tAnd_, ev_tOr_, ev_xAnd, ev_xOr, ev_xNot, ev_xIf, ev_xChain, ev_poNone, ev_poSome, ev_gName_, ev_gNil_, ev_gCons_, ev_gTup_, ev_xLc, ev_sNext, ev_sSeq, ev_sDrop, ev_sRet, ev_sRetN, ev_sIf, ev_sAsg, ev_sBreak, ev_sCont, ev_sFor, ev_sWhile, ev_jSeq, ev_jRange1, ev_jRange2, ev_xSl, ev_xRevT, ev_jZip, ev_xPeek, ev_tPeek, ev_sNever, ev_sFz, ev_sOwn, ev_fLst, ev_fLc, ev_fListT, ev_sSetF, ev_sAppend, ev_sExtend, ev_sPar, ev_sAugI, ev_xLc2, ev_xFld, ev_xMeth, ev_xMake, ev_sFld_, ev_xDGet, ev_xDIn, ev_xDGet2, ev_xDc, ev_xValsKeys, ev_xLenSet, ev_xSortSet, ev_jZip3, ev_sParL, ev_sPar3, wp_qE, wp_qA, wp_qT, wp_qI, wp_qF, wp_qP, wp_qS, wp_qCons, wp_qTup, wp_qLst, wp_qOp2, wp_qUn, wp_qFn, wp_qCall, wp_qDraw, wp_qB, wp_qTest, wp_qNotT, wp_qAndT, wp_qOrT, wp_qAnd, wp_qOr, wp_qNot, wp_qIf, wp_qChain, wp_qPart, wp_qSeqI, wp_qRange1, wp_qRange2, wp_qLc, wp_qfLc, wp_qSeq, wp_qDrop, wp_qRet, wp_qIfS, wp_qAsg, wp_qFor, wp_qWhile, wp_qFz, wp_qSetF, wp_qAppend, wp_qExtend, wp_qPar, ev_jEnum1, ev_jEnum2, wp_qParM2, wp_qParM3, wp_qParMN, ev_sParM2, ev_sParM3, ev_sParMN, ev_fDNew, ev_fDict, wp_qfDict, wp_qfLst, ev_sDPut_, ev_fRep, ev_sIxPut, ev_jZipM, ev_xOrT, ev_xAndT, tru_lst, tru_tup, tru_non, tru_bl, List.getElem?_cons_zero, List.getElem?_cons_succ, List.set_cons_zero, List.set_cons_succ, List.map_cons, List.map_nil, List.length_cons, List.length_nil, List.length_map, Option.bind_some, Option.bind_none, atEnv_d, ownAt_o, blOf_b, inOf_i, lstOf_l, hide_d, hide_any, hide_own, hide_pot, frz_d, frz_any, frz_own, frz_pot, wipeE, when_t, when_f, end_rt, end_nx, Bool.not_true, Bool.not_false, lc1, Nat.zero_add, Nat.reduceAdd, Int.cast_ofNat_Int, beq_self_eq_true, Int.reduceBEq, Int.reduceLE, Int.reduceLT, decide_true, decide_false, Int.reduceNeg, Nat.reduceBEq, Bool.and_true, Bool.true_and, Bool.and_false, Bool.false_and, insOf_s, dctOf_d, keyOf_s, keyOf_i, unown, freeAt, ownAt_a, ownAt_dd, ownAt_p, blt_dec, Nat.reduceLT, Option.isNone_none, Option.isNone_some, fzAt, mpEv, parEnv, unowns, ex_some, ex_int, ex_two, ex_lst, at_nx, at_rt, isNon_i, isNon_s, isNon_n, true_and, and_true, nbeq, at0, at1, at2, sz0, sz1, sz2, sz3, sz4, sz5, sz6, sz7, sz8, bools_map, wholes_map, texts_map, all_id, any_id, sem_lt, sem_le, sem_gt, sem_ge, sem_ltS, sem_leS, sem_add, sem_addT, sem_addL, sem_sub, sem_mul, sem_mod, sem_div, sem_neg, sem_is, sem_isnt, sem_eqI, sem_neI, sem_eqS, sem_neS, sem_eqB, sem_lenT, sem_lenL, sem_lenS, sem_tupL, sem_tupT, sem_lstT, sem_lstL, sem_intI, sem_intB, sem_all, sem_any, sem_sum, sem_min, sem_max, sem_ixT, sem_ixL, sem_ixS, sem_repr, sem_slT, sem_slL, items_T, items_L, items_S, isi_int_int, isi_int_bool, isi_int_str, isi_int_tuple, isi_int_list, isi_int_dict, isi_bl_int, isi_bl_bool, isi_bl_str, isi_bl_tuple, isi_bl_list, isi_bl_dict, isi_str_int, isi_str_bool, isi_str_str, isi_str_tuple, isi_str_list, isi_str_dict, isi_tup_int, isi_tup_bool, isi_tup_str, isi_tup_tuple, isi_tup_list, isi_tup_dict, isi_lst_int, isi_lst_bool, isi_lst_str, isi_lst_tuple, isi_lst_list, isi_lst_dict, isi_non_int, isi_non_bool, isi_non_str, isi_non_tuple, isi_non_list, isi_non_dict, isi_dct_int, isi_dct_bool, isi_dct_str, isi_dct_tuple, isi_dct_list, isi_dct_dict])
local macro_rules | `(tactic| walk_at "evh") => `(tactic| simp only [*, ev_xDNew, ev_xDispV, ev_xDispI, wp_qPar3, ev_xDGetT, ev_fDNewT, ev_sDPutT, wp_qDPutT, ev_xLcK, ev_xCallG, ev_poOpt, sem_ltX, sem_ltXS, ev_xVar, ev_xInt, ev_xStr, ev_xBl, ev_xTy, ev_xNon, ev_aNil, ev_aCons, ev_xTup, ev_xLst, ev_xOp2, ev_xUn, ev_xFn, ev_xCall, ev_tB_, ev_tTest_, ev_tYes_, ev_tNot_, ev_tAnd_, ev_tOr_, ev_xAnd, ev_xOr, ev_xNot, ev_xIf, ev_xChain, ev_poNone, ev_poSome, ev_gName_, ev_gNil_, ev_gCons_, ev_gTup_, ev_xLc, ev_sNext, ev_sSeq, ev_sDrop, ev_sRet, ev_sRetN, ev_sIf, ev_sAsg, ev_sBreak, ev_sCont, ev_sFor, ev_sWhile, ev_jSeq, ev_jRange1, ev_jRange2, ev_xSl, ev_xRevT, ev_jZip, ev_xPeek, ev_tPeek, ev_sNever, ev_sFz, ev_sOwn, ev_fLst, ev_fLc, ev_fListT, ev_sSetF, ev_sAppend, ev_sExtend, ev_sPar, ev_sAugI, ev_xLc2, ev_xFld, ev_xMeth, ev_xMake, ev_sFld_, ev_xDGet, ev_xDIn, ev_xDGet2, ev_xDc, ev_xValsKeys, ev_xLenSet, ev_xSortSet, ev_jZip3, ev_sParL, ev_sPar3, wp_qE, wp_qA, wp_qT, wp_qI, wp_qF, wp_qP, wp_qS, wp_qCons, wp_qTup, wp_qLst, wp_qOp2, wp_qUn, wp_qFn, wp_qCall, wp_qDraw, wp_qB, wp_qTest, wp_qNotT, wp_qAndT, wp_qOrT, wp_qAnd, wp_qOr, wp_qNot, wp_qIf, wp_qChain, wp_qPart, wp_qSeqI, wp_qRange1, wp_qRange2, wp_qLc, wp_qfLc, wp_qSeq, wp_qDrop, wp_qRet, wp_qIfS, wp_qAsg, wp_qFor, wp_qWhile, wp_qFz, wp_qSetF, wp_qAppend, wp_qExtend, wp_qPar, ev_jEnum1, ev_jEnum2, wp_qParM2, wp_qParM3, wp_qParMN, ev_sParM2, ev_sParM3, ev_sParMN, ev_fDNew, ev_fDict, wp_qfDict, wp_qfLst, ev_sDPut_, ev_fRep, ev_sIxPut, ev_jZipM, ev_xOrT, ev_xAndT, tru_lst, tru_tup, tru_non, tru_bl, List.getElem?_cons_zero, List.getElem?_cons_succ, List.set_cons_zero, List.set_cons_succ, List.map_cons, List.map_nil, List.length_cons, List.length_nil, List.length_map, Option.bind_some, Option.bind_none, atEnv_d, ownAt_o, blOf_b, inOf_i, lstOf_l, hide_d, hide_any, hide_own, hide_pot, frz_d, frz_any, frz_own, frz_pot, wipeE, when_t, when_f, end_rt, end_nx, Bool.not_true, Bool.not_false, lc1, Nat.zero_add, Nat.reduceAdd, Int.cast_ofNat_Int, beq_self_eq_true, Int.reduceBEq, Int.reduceLE, Int.reduceLT, decide_true, decide_false, Int.reduceNeg, Nat.reduceBEq, Bool.and_true, Bool.true_and, Bool.and_false, Bool.false_and, insOf_s, dctOf_d, keyOf_s, keyOf_i, unown, freeAt, ownAt_a, ownAt_dd, ownAt_p, blt_dec, Nat.reduceLT, Option.isNone_none, Option.isNone_some, fzAt, mpEv, parEnv, unowns, ex_some, ex_int, ex_two, ex_lst, at_nx, at_rt, isNon_i, isNon_s, isNon_n, true_and, and_true, nbeq, at0, at1, at2, sz0, sz1, sz2, sz3, sz4, sz5, sz6, sz7, sz8, bools_map, wholes_map, texts_map, all_id, any_id, sem_lt, sem_le, sem_gt, sem_ge, sem_ltS, sem_leS, sem_add, sem_addT, sem_addL, sem_sub, sem_mul, sem_mod, sem_div, sem_neg, sem_is, sem_isnt, sem_eqI, sem_neI, sem_eqS, sem_neS, sem_eqB, sem_lenT, sem_lenL, sem_lenS, sem_tupL, sem_tupT, sem_lstT, sem_lstL, sem_intI, sem_intB, sem_all, sem_any, sem_sum, sem_min, sem_max, sem_ixT, sem_ixL, sem_ixS, sem_repr, sem_slT, sem_slL, items_T, items_L, items_S, isi_int_int, isi_int_bool, isi_int_str, isi_int_tuple, isi_int_list, isi_int_dict, isi_bl_int, isi_bl_bool, isi_bl_str, isi_bl_tuple, isi_bl_list, isi_bl_dict, isi_str_int, isi_str_bool, isi_str_str, isi_str_tuple, isi_str_list, isi_str_dict, isi_tup_int, isi_tup_bool, isi_tup_str, isi_tup_tuple, isi_tup_list, isi_tup_dict, isi_lst_int, isi_lst_bool, isi_lst_str, isi_lst_tuple, isi_lst_list, isi_lst_dict, isi_non_int, isi_non_bool, isi_non_str, isi_non_tuple, isi_non_list, isi_non_dict, isi_dct_int, isi_dct_bool, isi_dct_str, isi_dct_tuple, isi_dct_list, isi_dct_dict])

/-! ## programs -/
structure Row where
  nm : Str
  held : List (Str × Int)
  later : List Str
def hapD (p : Str × Int) : D := .tup [.str p.1, .int p.2]
def Row.d (r : Row) : D := .tup [.str r.nm, .tup (r.held.map hapD), .tup (r.later.map .str)]
def okHap (p : Str × Int) : Bool := okName p.1 && decide (1 ≤ p.2) && decide (p.2 ≤ 5)
def okRow (r : Row) : Bool := okName r.nm && r.held.all okHap && ascB (r.held.map Prod.fst) && decide (r.later.length ≤ 3) && r.later.all okName && ascB r.later && decide (r.held.length ≤ 1000)
def kindsOf (rs : List Row) : List Str := rs.flatMap fun r => r.held.map Prod.fst
structure OkRows (rs : List Row) : Prop where
  ne : rs ≠ []
  row : ∀ r ∈ rs, okRow r = true
  nd : (rs.map Row.nm).Nodup
  sub : ∀ r ∈ rs, ∀ x ∈ r.later, x ∈ rs.map Row.nm
  len : rs.length ≤ 60
  kl : (kindsOf rs).length ≤ 63
structure OkRow (r : Row) : Prop where
  nm : okName r.nm = true
  hap : r.held.all okHap = true
  asc : ascB (r.held.map Prod.fst) = true
  l3 : r.later.length ≤ 3
  lat : r.later.all okName = true
  lasc : ascB r.later = true
  hl : r.held.length ≤ 1000
theorem okRow_of {r : Row} (h : okRow r = true) : OkRow r := by
  unfold okRow at h
  simp only [Bool.and_eq_true, decide_eq_true_eq] at h
  obtain ⟨⟨⟨⟨⟨⟨a, b⟩, c⟩, d⟩, e⟩, f⟩, g⟩ := h
  exact ⟨a, b, c, d, e, f, g⟩
theorem seen_nodup : ∀ {l : List Str}, l.Nodup → seen l = l
  | [], _ => rfl
  | x :: l, h => by
    obtain ⟨h1, h2⟩ := List.nodup_cons.mp h
    rw [seen, seen_nodup h2, if_neg h1]
theorem goLc2_all {α β : Type} {g : Tgx} {t : Ts} {it1 : Itx} {g1 : Tgx} {t1 : Ts} {e : Ex} {env : List E} {sl1 : List Nat} {enc : α → D} (f : α → List β) {fe : α → β → D} : ∀ {xs : List α}, (∀ x ∈ xs, ∃ env2 ds1, g.ev (enc x) env = some env2 ∧ t.ev env2 = some true ∧ it1.ev env2 = some ds1 ∧ goLc g1 t1 e (wipeE (env2.map hideE) sl1) ds1 = some ((f x).map (fe x))) →
    goLc2 g t it1 g1 t1 e env sl1 (xs.map enc) = some (xs.flatMap fun x => (f x).map (fe x))
  | [], _ => rfl
  | x :: xs, h => by
    obtain ⟨env2, ds1, h1, h2, h3, h4⟩ := h x (by simp)
    show (g.ev (enc x) env).bind _ = _
    rw [h1]
    show (t.ev env2).bind _ = _
    rw [h2]
    show (it1.ev env2).bind _ = _
    rw [h3]
    show (goLc g1 t1 e (wipeE (env2.map hideE) sl1) ds1).bind _ = _
    rw [h4]
    show (goLc2 g t it1 g1 t1 e env sl1 (xs.map enc)).bind _ = _
    rw [goLc2_all f (fe := fe) fun y hy => h y (List.mem_cons_of_mem _ hy)]
    rfl
theorem bools_flat {α β : Type} {f : α → List β} {b : α → β → Bool} : ∀ {xs : List α}, bools (xs.flatMap fun x => (f x).map fun y => D.bl (b x y)) = some (xs.flatMap fun x => (f x).map (b x))
  | [] => rfl
  | x :: xs => by
    rw [List.flatMap_cons, List.flatMap_cons]
    have app : ∀ (l : List Bool) (r : List D) (s : List Bool), bools r = some s → bools (l.map D.bl ++ r) = some (l ++ s) := by
      intro l
      induction l with
      | nil => exact fun r s h => h
      | cons c l ih =>
        intro r s h
        show (bools (l.map D.bl ++ r)).bind _ = _
        rw [ih r s h]
        rfl
    have := app ((f x).map (b x)) _ _ (bools_flat (f := f) (b := b) (xs := xs))
    rw [List.map_map] at this
    exact this
/-! ### the new program -/
def laterK (rs : List Row) : List (Key × D) := rs.map fun r => (.inr r.nm, .tup (r.later.map .str))
def heldK (hs : List (Str × Int)) : List (Key × D) := hs.map fun p => (.inr p.1, .int p.2)
def countsK (rs : List Row) : List (Key × D) := rs.map fun r => (.inr r.nm, .dct (heldK r.held))
def kindsS (rs : List Row) : List Str := sortS (seen (kindsOf rs).reverse)
def progF (rs : List Row) : List (Str × D) := [("steps", .tup (rs.map Row.d)), ("names", .tup (rs.map fun r => .str r.nm)), ("later_names", .dct (laterK rs)), ("counts", .dct (countsK rs)), ("kinds", .tup ((kindsS rs).map .str))]
theorem put_new {kvs : List (Key × D)} {k : Key} {v : D} (h : k ∉ kvs.map Prod.fst) : putKD kvs k v = kvs ++ [(k, v)] := by
  unfold putKD
  rw [if_neg]
  intro z
  obtain ⟨kv, h1, h2⟩ := List.any_eq_true.mp z
  exact h (List.mem_map.mpr ⟨kv, h1, of_decide_eq_true h2⟩)
theorem merge_nodup : ∀ {kvs acc : List (Key × D)}, (acc.map Prod.fst ++ kvs.map Prod.fst).Nodup → mergeKD acc kvs = acc ++ kvs
  | [], acc, _ => (List.append_nil acc).symm
  | (k, v) :: kvs, acc, h => by
    show mergeKD (putKD acc k v) kvs = _
    have hk : k ∉ acc.map Prod.fst := fun z => (List.nodup_append.mp h).2.2 k z k (by simp) rfl
    rw [put_new hk, merge_nodup]
    · simp
    · rw [List.map_append, List.append_assoc]
      exact h
theorem goDc_nodup {α : Type} {g : Tgx} {t : Ts} {k v : Ex} {env : List E} {enc : α → D} {fk : α → Key} {fv : α → D} : ∀ {xs : List α} {acc : List (Key × D)}, (∀ x ∈ xs, ∃ env2 y, g.ev (enc x) env = some env2 ∧ t.ev env2 = some true ∧ k.ev env2 = some y ∧ keyOf y = some (fk x) ∧ v.ev env2 = some (fv x)) →
    (acc.map Prod.fst ++ xs.map fk).Nodup → goDc g t k v env (xs.map enc) acc = some (acc ++ xs.map fun x => (fk x, fv x))
  | [], acc, _, _ => by rw [List.map_nil, List.map_nil, List.append_nil]; rfl
  | x :: xs, acc, h, nd => by
    obtain ⟨env2, y, h1, h2, h3, h4, h5⟩ := h x (by simp)
    show (g.ev (enc x) env).bind _ = _
    rw [h1]
    show (t.ev env2).bind _ = _
    rw [h2]
    show (k.ev env2).bind _ = _
    rw [h3]
    show (keyOf y).bind _ = _
    rw [h4]
    show (v.ev env2).bind _ = _
    rw [h5]
    show goDc g t k v env (xs.map enc) (putKD acc (fk x) (fv x)) = _
    have hk : fk x ∉ acc.map Prod.fst := fun z => (List.nodup_append.mp nd).2.2 _ z _ (by simp) rfl
    rw [put_new hk, goDc_nodup (fk := fk) (fv := fv) fun y hy => h y (List.mem_cons_of_mem _ hy)]
    · simp
    · rw [List.map_append, List.append_assoc]
      exact nd
theorem asc_nodup : ∀ {ks : List Str}, ascB ks = true → ks.Pairwise fun a b => ltB a b = true
  | [], _ => .nil
  | [x], _ => by simp
  | x :: y :: ks, h => by
    have h' : (ltB x y && ascB (y :: ks)) = true := h
    rw [Bool.and_eq_true] at h'
    have ih := asc_nodup h'.2
    refine List.pairwise_cons.mpr ⟨fun z hz => ?_, ih⟩
    rcases List.mem_cons.mp hz with rfl | hz
    · exact h'.1
    · have h2 := (List.pairwise_cons.mp ih).1 z hz
      unfold ltB at h2 ⊢
      rw [decide_eq_true_eq] at h2 ⊢
      exact List.lt_trans (of_decide_eq_true h'.1) h2
theorem ltB_irr (x : Str) : ltB x x = false := by
  unfold ltB
  rw [decide_eq_false_iff_not]
  exact List.lt_irrefl _
theorem asc_nd {ks : List Str} (h : ascB ks = true) : ks.Nodup := (asc_nodup h).imp fun {a b} h e => by
  subst e
  rw [ltB_irr] at h
  cases h
theorem nd_key {ks : List Str} (h : ks.Nodup) : (ks.map (Sum.inr : Str → Key)).Nodup := by
  refine List.Pairwise.map _ (fun a b hab => ?_) h
  exact fun z => hab (Sum.inr.inj z)
theorem dict_ok {hs : List (Str × Int)} (h : ascB (hs.map Prod.fst) = true) : mDict.f [.tup (hs.map hapD)] = some (.dct (heldK hs)) := by
  have e : pairsOf_ (hs.map hapD) = some (heldK hs) := by
    clear h
    induction hs with
    | nil => rfl
    | cons p hs ih =>
      show (keyOf (.str p.1)).bind (fun key => (pairsOf_ (hs.map hapD)).bind fun r => some ((key, D.int p.2) :: r)) = _
      rw [ih]
      rfl
  show orElse_ ((pairsOf_ (hs.map hapD)).bind fun kvs => some (D.dct (mergeKD [] kvs))) _ = _
  rw [e]
  show some (D.dct (mergeKD [] (heldK hs))) = _
  rw [merge_nodup]
  · rfl
  · show ((heldK hs).map Prod.fst).Nodup
    unfold heldK
    rw [List.map_map]
    have := nd_key (asc_nd h)
    rw [List.map_map] at this
    exact this
theorem keys_all : ∀ rs : List Row, keysAll (countsK rs) = some ((kindsOf rs).map Sum.inr)
  | [] => rfl
  | r :: rs => by
    show (dctOf (.dct (heldK r.held))).bind (fun ks => (keysAll (countsK rs)).bind fun rest => some (ks.map (·.1) ++ rest)) = _
    rw [keys_all rs]
    show some ((heldK r.held).map (·.1) ++ (kindsOf rs).map Sum.inr) = _
    unfold kindsOf heldK
    rw [List.flatMap_cons, List.map_append, List.map_map, List.map_map]
    rfl
/-! ### what programs tell -/
def rowOf (rs : List Row) (x : Str) : Option Row := rs.find? fun r => r.nm == x
theorem key_dec (a b : Str) : decide ((Sum.inr a : Key) = .inr b) = (a == b) := by
  rw [Bool.eq_iff_iff, decide_eq_true_eq, beq_iff_eq]
  exact ⟨fun h => Sum.inr.inj h, fun h => h ▸ rfl⟩
theorem find_key {α : Type} {f : α → D} {g : α → Str} (x : Str) : ∀ rs : List α, valD (rs.map fun r => (Sum.inr (g r), f r)) (.inr x) = (rs.find? fun r => g r == x).map f
  | [] => rfl
  | r :: rs => by
    have ih := find_key (f := f) (g := g) x rs
    unfold valD at ih ⊢
    rw [List.map_cons, List.find?_cons, List.find?_cons]
    dsimp only
    rw [key_dec]
    cases g r == x with
    | true => rfl
    | false => exact ih
theorem val_later (rs : List Row) (x : Str) : valD (laterK rs) (.inr x) = (rowOf rs x).map fun r => .tup (r.later.map .str) := find_key x rs
theorem val_counts (rs : List Row) (x : Str) : valD (countsK rs) (.inr x) = (rowOf rs x).map fun r => .dct (heldK r.held) := find_key x rs
theorem val_held (x : Str) : ∀ hs : List (Str × Int), valD (heldK hs) (.inr x) = (hs.lookup x).map .int
  | [] => rfl
  | (k, v) :: hs => by
    have ih := val_held x hs
    unfold heldK valD at ih ⊢
    rw [List.map_cons, List.find?_cons, List.lookup_cons]
    dsimp only
    rw [key_dec, Bool.beq_comm]
    cases x == k with
    | true => rfl
    | false => exact ih
theorem lk_names (rs : List Row) : List.lookup ("names" : Str) (progF rs) = some (.tup (rs.map fun r => .str r.nm)) := rfl
theorem lk_later (rs : List Row) : List.lookup ("later_names" : Str) (progF rs) = some (.dct (laterK rs)) := rfl
theorem lk_counts (rs : List Row) : List.lookup ("counts" : Str) (progF rs) = some (.dct (countsK rs)) := rfl
theorem lk_kinds (rs : List Row) : List.lookup ("kinds" : Str) (progF rs) = some (.tup ((kindsS rs).map .str)) := rfl
theorem nm_check (rs : List Row) : (List.lookup ("check_step" : Str) (progF rs)).isNone = true := rfl
theorem nm_many (rs : List Row) : (List.lookup ("many" : Str) (progF rs)).isNone = true := rfl
theorem nm_run (rs : List Row) : (List.lookup ("is_run" : Str) (progF rs)).isNone = true := rfl
theorem nm_whole (rs : List Row) : (List.lookup ("is_whole" : Str) (progF rs)).isNone = true := rfl
theorem nm_following (rs : List Row) : (List.lookup ("following" : Str) (progF rs)).isNone = true := rfl
def laterOf (rs : List Row) (x : Str) : List Str := match rowOf rs x with
  | some r => r.later
  | none => []
def cntOf (rs : List Row) (x k : Str) : Int := match rowOf rs x with
  | some r => (r.held.lookup k).getD 0
  | none => 0
def cntO (rs : List Row) (x : Str) : Option Str → Int
  | some k => cntOf rs x k
  | none => 0
theorem mem_kinds (rs : List Row) (k : Str) : (kindsS rs).elem k = (kindsOf rs).elem k := by
  rw [Bool.eq_iff_iff, List.elem_eq_mem, List.elem_eq_mem, decide_eq_true_eq, decide_eq_true_eq]
  unfold kindsS
  rw [(sortS_perm _).mem_iff, mem_seen, List.mem_reverse]
theorem held_none {hs : List (Str × Int)} {k : Str} (h : k ∉ hs.map Prod.fst) : hs.lookup k = none := by
  induction hs with
  | nil => rfl
  | cons p hs ih =>
    obtain ⟨a, b⟩ := p
    rw [List.map_cons, List.mem_cons, not_or] at h
    rw [List.lookup_cons, ih h.2]
    have : (k == a) = false := by rw [beq_eq_false_iff_ne]; exact h.1
    rw [this]
/-! ### runs -/
def isRunB (rs : List Row) (run : List Str) : Bool := match run with
  | [] => false
  | x :: _ => run.all (fun x => (rowOf rs x).isSome) && (rs.head?.map Row.nm == some x) && (run.zip (run.drop 1)).all fun p => (laterOf rs p.1).elem p.2
theorem at_head {α β : Type} {f : α → β} {xs : List α} {x : α} (h : xs.head? = some x) : atI (xs.map f) 0 = some (f x) := by
  cases xs with
  | nil => cases h
  | cons y xs =>
    cases h
    exact at0
end FR
namespace FR
open PySem PySem.Spec PyProof.Rows L2
variable [TheW]
local macro_rules | `(tactic| walk_at "ev") => `(tactic| simp only [ev_xDNew, ev_xDispV, ev_xDispI, wp_qPar3, ev_xDGetT, ev_fDNewT, ev_sDPutT, wp_qDPutT, ev_xLcK, ev_xCallG, ev_poOpt, sem_ltX, sem_ltXS, ev_xVar, ev_xInt, ev_xStr, ev_xBl, ev_xTy, ev_xNon, ev_aNil, ev_aCons, ev_xTup, ev_xLst, ev_xOp2, ev_xUn, ev_xFn, ev_xCall, ev_tB_, ev_tTest_, ev_tYes_, ev_tNot_, ev_tAnd_, ev_tOr_, ev_xAnd, ev_xOr, ev_xNot, ev_xIf, ev_xChain, ev_poNone, ev_poSome, ev_gName_, ev_gNil_, ev_gCons_, ev_gTup_, ev_xLc, ev_sNext, ev_sSeq, ev_sDrop, ev_sRet, ev_sRetN, ev_sIf, ev_sAsg, ev_sBreak, ev_sCont, ev_sFor, ev_sWhile, ev_jSeq, ev_jRange1, ev_jRange2, ev_xSl, ev_xRevT, ev_jZip, ev_xPeek, ev_tPeek, ev_sNever, ev_sFz, ev_sOwn, ev_fLst, ev_fLc, ev_fListT, ev_sSetF, ev_sAppend, ev_sExtend, ev_sPar, ev_sAugI, ev_xLc2, ev_xFld, ev_xMeth, ev_xMake, ev_sFld_, ev_xDGet, ev_xDIn, ev_xDGet2, ev_xDc, ev_xValsKeys, ev_xLenSet, ev_xSortSet, ev_jZip3, ev_sParL, ev_sPar3, wp_qE, wp_qA, wp_qT, wp_qI, wp_qF, wp_qP, wp_qS, wp_qCons, wp_qTup, wp_qLst, wp_qOp2, wp_qUn, wp_qFn, wp_qCall, wp_qDraw, wp_qB, wp_qTest, wp_qNotT, wp_qAndT, wp_qOrT, wp_qAnd, wp_qOr, wp_qNot, wp_qIf, wp_qChain, wp_qPart, wp_qSeqI, wp_qRange1, wp_qRange2, wp_qLc, wp_qfLc, wp_qSeq, wp_qDrop, wp_qRet, wp_qIfS, wp_qAsg, wp_qFor, wp_qWhile, wp_qFz, wp_qSetF, wp_qAppend, wp_qExtend, wp_qPar, ev_jEnum1, ev_jEnum2, wp_qParM2, wp_qParM3, wp_qParMN, ev_sParM2, ev_sParM3, ev_sParMN, ev_fDNew, ev_fDict, wp_qfDict, wp_qfLst, ev_sDPut_, ev_fRep, ev_sIxPut, ev_jZipM, ev_xOrT, ev_xAndT, tru_lst, tru_tup, tru_non, tru_bl, List.getElem?_cons_zero, List.getElem?_cons_succ, List.set_cons_zero, List.set_cons_succ, List.map_cons, List.map_nil, List.length_cons, List.length_nil, List.length_map, Option.bind_some, Option.bind_none, atEnv_d, ownAt_o, blOf_b, inOf_i, lstOf_l, hide_d, hide_any, hide_own, hide_pot, frz_d, frz_any, frz_own, frz_pot, wipeE, when_t, when_f, end_rt, end_nx, Bool.not_true, Bool.not_false, lc1, Nat.zero_add, Nat.reduceAdd, Int.cast_ofNat_Int, beq_self_eq_true, Int.reduceBEq, Int.reduceLE, Int.reduceLT, decide_true, decide_false, Int.reduceNeg, Nat.reduceBEq, Bool.and_true, Bool.true_and, Bool.and_false, Bool.false_and, insOf_s, dctOf_d, keyOf_s, keyOf_i, unown, freeAt, ownAt_a, ownAt_dd, ownAt_p, blt_dec, Nat.reduceLT, Option.isNone_none, Option.isNone_some, fzAt, mpEv, parEnv, unowns, ex_some, ex_int, ex_two, ex_lst, at_nx, at_rt, isNon_i, isNon_s, isNon_n, true_and, and_true, nbeq, at0, at1, at2, sz0, sz1, sz2, sz3, sz4, sz5, sz6, sz7, sz8, bools_map, wholes_map, texts_map, all_id, any_id, sem_lt, sem_le, sem_gt, sem_ge, sem_ltS, sem_leS, sem_add, sem_addT, sem_addL, sem_sub, sem_mul, sem_mod, sem_div, sem_neg, sem_is, sem_isnt, sem_eqI, sem_neI, sem_eqS, sem_neS, sem_eqB, sem_lenT, sem_lenL, sem_lenS, sem_tupL, sem_tupT, sem_lstT, sem_lstL, sem_intI, sem_intB, sem_all, sem_any, sem_sum, sem_min, sem_max, sem_ixT, sem_ixL, sem_ixS, sem_repr, sem_slT, sem_slL, items_T, items_L, items_S, isi_int_int, isi_int_bool, isi_int_str, isi_int_tuple, isi_int_list, isi_int_dict, isi_bl_int, isi_bl_bool, isi_bl_str, isi_bl_tuple, isi_bl_list, isi_bl_dict, isi_str_int, isi_str_bool, isi_str_str, isi_str_tuple, isi_str_list, isi_str_dict, isi_tup_int, isi_tup_bool, isi_tup_str, isi_tup_tuple, isi_tup_list, isi_tup_dict, isi_lst_int, isi_lst_bool, isi_lst_str, isi_lst_tuple, isi_lst_list, isi_lst_dict, isi_non_int, isi_non_bool, isi_non_str, isi_non_tuple, isi_non_list, isi_non_dict, isi_dct_int, isi_dct_bool, isi_dct_str, isi_dct_tuple, isi_dct_list, isi_dct_dict])
local macro_rules | `(tactic| walk_at "evh") => `(tactic| simp only [*, ev_xDNew, ev_xDispV, ev_xDispI, wp_qPar3, ev_xDGetT, ev_fDNewT, ev_sDPutT, wp_qDPutT, ev_xLcK, ev_xCallG, ev_poOpt, sem_ltX, sem_ltXS, ev_xVar, ev_xInt, ev_xStr, ev_xBl, ev_xTy, ev_xNon, ev_aNil, ev_aCons, ev_xTup, ev_xLst, ev_xOp2, ev_xUn, ev_xFn, ev_xCall, ev_tB_, ev_tTest_, ev_tYes_, ev_tNot_, ev_tAnd_, ev_tOr_, ev_xAnd, ev_xOr, ev_xNot, ev_xIf, ev_xChain, ev_poNone, ev_poSome, ev_gName_, ev_gNil_, ev_gCons_, ev_gTup_, ev_xLc, ev_sNext, ev_sSeq, ev_sDrop, ev_sRet, ev_sRetN, ev_sIf, ev_sAsg, ev_sBreak, ev_sCont, ev_sFor, ev_sWhile, ev_jSeq, ev_jRange1, ev_jRange2, ev_xSl, ev_xRevT, ev_jZip, ev_xPeek, ev_tPeek, ev_sNever, ev_sFz, ev_sOwn, ev_fLst, ev_fLc, ev_fListT, ev_sSetF, ev_sAppend, ev_sExtend, ev_sPar, ev_sAugI, ev_xLc2, ev_xFld, ev_xMeth, ev_xMake, ev_sFld_, ev_xDGet, ev_xDIn, ev_xDGet2, ev_xDc, ev_xValsKeys, ev_xLenSet, ev_xSortSet, ev_jZip3, ev_sParL, ev_sPar3, wp_qE, wp_qA, wp_qT, wp_qI, wp_qF, wp_qP, wp_qS, wp_qCons, wp_qTup, wp_qLst, wp_qOp2, wp_qUn, wp_qFn, wp_qCall, wp_qDraw, wp_qB, wp_qTest, wp_qNotT, wp_qAndT, wp_qOrT, wp_qAnd, wp_qOr, wp_qNot, wp_qIf, wp_qChain, wp_qPart, wp_qSeqI, wp_qRange1, wp_qRange2, wp_qLc, wp_qfLc, wp_qSeq, wp_qDrop, wp_qRet, wp_qIfS, wp_qAsg, wp_qFor, wp_qWhile, wp_qFz, wp_qSetF, wp_qAppend, wp_qExtend, wp_qPar, ev_jEnum1, ev_jEnum2, wp_qParM2, wp_qParM3, wp_qParMN, ev_sParM2, ev_sParM3, ev_sParMN, ev_fDNew, ev_fDict, wp_qfDict, wp_qfLst, ev_sDPut_, ev_fRep, ev_sIxPut, ev_jZipM, ev_xOrT, ev_xAndT, tru_lst, tru_tup, tru_non, tru_bl, List.getElem?_cons_zero, List.getElem?_cons_succ, List.set_cons_zero, List.set_cons_succ, List.map_cons, List.map_nil, List.length_cons, List.length_nil, List.length_map, Option.bind_some, Option.bind_none, atEnv_d, ownAt_o, blOf_b, inOf_i, lstOf_l, hide_d, hide_any, hide_own, hide_pot, frz_d, frz_any, frz_own, frz_pot, wipeE, when_t, when_f, end_rt, end_nx, Bool.not_true, Bool.not_false, lc1, Nat.zero_add, Nat.reduceAdd, Int.cast_ofNat_Int, beq_self_eq_true, Int.reduceBEq, Int.reduceLE, Int.reduceLT, decide_true, decide_false, Int.reduceNeg, Nat.reduceBEq, Bool.and_true, Bool.true_and, Bool.and_false, Bool.false_and, insOf_s, dctOf_d, keyOf_s, keyOf_i, unown, freeAt, ownAt_a, ownAt_dd, ownAt_p, blt_dec, Nat.reduceLT, Option.isNone_none, Option.isNone_some, fzAt, mpEv, parEnv, unowns, ex_some, ex_int, ex_two, ex_lst, at_nx, at_rt, isNon_i, isNon_s, isNon_n, true_and, and_true, nbeq, at0, at1, at2, sz0, sz1, sz2, sz3, sz4, sz5, sz6, sz7, sz8, bools_map, wholes_map, texts_map, all_id, any_id, sem_lt, sem_le, sem_gt, sem_ge, sem_ltS, sem_leS, sem_add, sem_addT, sem_addL, sem_sub, sem_mul, sem_mod, sem_div, sem_neg, sem_is, sem_isnt, sem_eqI, sem_neI, sem_eqS, sem_neS, sem_eqB, sem_lenT, sem_lenL, sem_lenS, sem_tupL, sem_tupT, sem_lstT, sem_lstL, sem_intI, sem_intB, sem_all, sem_any, sem_sum, sem_min, sem_max, sem_ixT, sem_ixL, sem_ixS, sem_repr, sem_slT, sem_slL, items_T, items_L, items_S, isi_int_int, isi_int_bool, isi_int_str, isi_int_tuple, isi_int_list, isi_int_dict, isi_bl_int, isi_bl_bool, isi_bl_str, isi_bl_tuple, isi_bl_list, isi_bl_dict, isi_str_int, isi_str_bool, isi_str_str, isi_str_tuple, isi_str_list, isi_str_dict, isi_tup_int, isi_tup_bool, isi_tup_str, isi_tup_tuple, isi_tup_list, isi_tup_dict, isi_lst_int, isi_lst_bool, isi_lst_str, isi_lst_tuple, isi_lst_list, isi_lst_dict, isi_non_int, isi_non_bool, isi_non_str, isi_non_tuple, isi_non_list, isi_non_dict, isi_dct_int, isi_dct_bool, isi_dct_str, isi_dct_tuple, isi_dct_list, isi_dct_dict])

theorem cut_nat (xs : List D) {s e : Nat} (h : s ≤ e) : cutD xs (some (s : Int)) (some (e : Int)) = (xs.drop s).take (e - s) := by
  unfold cutD
  rw [HT.sIx_nat, HT.sIx_nat]
  by_cases h1 : s ≤ xs.length
  · rw [Nat.min_eq_left h1]
    by_cases h2 : e ≤ xs.length
    · rw [Nat.min_eq_left h2]
    · rw [Nat.min_eq_right (by omega), List.take_of_length_le (by rw [List.length_drop]; omega), List.take_of_length_le (by rw [List.length_drop]; omega)]
  · rw [show min s xs.length = xs.length by omega, show min e xs.length = xs.length by omega, List.drop_of_length_le (Nat.le_refl _), List.drop_of_length_le (by omega)]
    simp
theorem cut_from (xs : List D) (m : Nat) : cutD xs (some (m : Int)) none = xs.drop m := by
  unfold cutD
  rw [HT.sIx_nat, HT.sIx_none]
  by_cases h : m ≤ xs.length
  · rw [Nat.min_eq_left h, List.take_of_length_le (by rw [List.length_drop]; omega)]
  · rw [Nat.min_eq_right (by omega), Nat.sub_self, List.take_zero, List.drop_of_length_le (by omega)]
theorem cut_to (xs : List D) (m : Nat) : cutD xs none (some (m : Int)) = xs.take m := by
  unfold cutD
  rw [HT.sIx_nat, HT.sIx_none, List.drop_zero, Nat.sub_zero]
  by_cases h : m ≤ xs.length
  · rw [Nat.min_eq_left h]
  · rw [Nat.min_eq_right (by omega), List.take_of_length_le (Nat.le_refl _), List.take_of_length_le (by omega)]
theorem at_nat {α : Type} (xs : List α) (i : Nat) (h : i < xs.length) : atI xs (i : Int) = some xs[i] := by
  unfold atI ixN
  rw [if_pos (by omega), if_pos (by omega)]
  show xs[(i : Int).toNat]? = _
  rw [Int.toNat_natCast, List.getElem?_eq_getElem h]
/-! ## data that can be shown -/
structure Lite (k w : Nat) (d : D) : Prop where
  fine : fineD d = true
  dp : dp d ≤ k
  wt : wt d ≤ w
theorem Lite.mono {k w k' w' : Nat} {d : D} (h : Lite k w d) (a : k ≤ k') (b : w ≤ w') : Lite k' w' d := ⟨h.fine, Nat.le_trans h.dp a, Nat.le_trans h.wt b⟩
theorem lite_int {i : Int} (h : i.natAbs < 100000000000000000000) : Lite 0 40 (.int i) := ⟨by rw [fineD]; exact decide_eq_true h, Nat.le_refl _, Nat.le_refl _⟩
theorem lite_non : Lite 0 40 .non := ⟨rfl, Nat.le_refl _, Nat.le_refl _⟩
theorem lite_bl (b : Bool) : Lite 0 40 (.bl b) := ⟨rfl, Nat.le_refl _, Nat.le_refl _⟩
theorem lite_str {x : Str} (h : okName x = true) : Lite 0 82 (.str x) := by
  refine ⟨?_, Nat.le_refl _, ?_⟩
  · rw [fineD]
    unfold strFine
    rw [List.all_eq_true]
    intro c hc
    have := okName_all h c hc
    exact decide_eq_true (by omega)
  · rw [wt]
    have := (okName_len h).2
    omega
theorem lite_L {k w : Nat} : ∀ {xs : List D}, (∀ x ∈ xs, Lite k w x) → fineL xs = true ∧ dpL xs ≤ k ∧ wtL xs ≤ (w + 2) * xs.length
  | [], _ => ⟨rfl, Nat.zero_le _, Nat.le_refl _⟩
  | x :: xs, h => by
    have a := h x (by simp)
    obtain ⟨b1, b2, b3⟩ := lite_L fun y hy => h y (List.mem_cons_of_mem _ hy)
    refine ⟨by rw [fineL, a.fine, b1]; rfl, by rw [dpL]; exact Nat.max_le.mpr ⟨a.dp, b2⟩, ?_⟩
    have := a.wt
    rw [wtL, List.length_cons, Nat.mul_add]
    omega
theorem lite_tup {k w : Nat} {xs : List D} (h : ∀ x ∈ xs, Lite k w x) : Lite (k + 1) ((w + 2) * xs.length + 4) (.tup xs) := by
  obtain ⟨b1, b2, b3⟩ := lite_L h
  exact ⟨by rw [fineD, b1], by rw [FR.dp]; omega, by rw [FR.wt]; omega⟩
theorem lite_lst {k w : Nat} {xs : List D} (h : ∀ x ∈ xs, Lite k w x) : Lite (k + 1) ((w + 2) * xs.length + 4) (.lst xs) := by
  obtain ⟨b1, b2, b3⟩ := lite_L h
  exact ⟨by rw [fineD, b1], by rw [FR.dp]; omega, by rw [FR.wt]; omega⟩
theorem Lite.show {k w : Nat} {d : D} (h : Lite k w d) (hk : k ≤ 100) (hw : w ≤ 16000000) : canShow d = true := canShow_of h.fine (Nat.le_trans h.dp hk) (Nat.le_trans h.wt hw)
theorem eq_shown {a b : D} (h : a = b) (hs : canShow a = true) : ((mRepr.f [a]).bind fun x => (mRepr.f [b]).bind fun y => mEq.f x y) = some (.bl true) := by
  subst h
  rw [sem_repr, hs]
  show mEq.f (.str (py a).shown) (.str (py a).shown) = _
  rw [sem_eqS, beq_self_eq_true]
theorem layK_lst {k : Nat} {xs : List D} (h : ∀ x ∈ xs, layK k x) : layK (k + 1) (.lst xs) := by
  obtain ⟨b1, b2, b3⟩ := layK_L h
  refine ⟨by rw [noDct, b1], by rw [py, PyData.canLay0, b2], ?_⟩
  rw [py, PyData.depth]
  omega
theorem eq_nil {xs : List D} (h : layD (.lst xs) = true) : mEq.f (.lst xs) (.lst []) = some (.bl xs.isEmpty) := by
  have hn : layD (.lst []) = true := rfl
  show orElse_ none (when (layD (.lst xs) && layD (.lst [])) (some (D.bl (eqX (.lst xs) (.lst []))))) = _
  rw [h, hn]
  show some (D.bl (eqX (.lst xs) (.lst []))) = _
  cases xs with
  | nil => rfl
  | cons x xs =>
    unfold eqX
    rw [py, pyL, py, pyL, PyData.eqv, PyData.eqvAll]
    rfl
theorem seq_pure {a b : Stx} {B : QS} (hB : ∀ n env O, (qS b).wp n env O → B.wp n env O) : ∀ n env O, (qS (sSeq a b)).wp n env O → (qSeq (qS a) B).wp n env O := by
  rintro n env O ⟨fl, h1, h2⟩
  obtain ⟨f1, h3, h4⟩ := bind_inv (o := a.ev env) h1
  refine ⟨f1, h3, ?_⟩
  cases f1 with
  | nx env' => exact hB n env' O ⟨fl, h4, h2⟩
  | rt d => cases h4; exact h2
  | bk e => cases h4; exact h2
  | ct e => cases h4; exact h2
/-! ### the last one -/
theorem at_last {α : Type} {xs : List α} {x : α} (h : xs.getLast? = some x) : atI xs (-1) = some x := by
  have h0 : xs.length ≠ 0 := by
    intro z
    rw [List.length_eq_zero_iff.mp z] at h
    cases h
  unfold atI ixN
  rw [if_neg (by decide), if_pos (by omega)]
  show xs[((-1 : Int) + (xs.length : Int)).toNat]? = _
  rw [show ((-1 : Int) + (xs.length : Int)).toNat = xs.length - 1 by omega, ← List.getLast?_eq_getElem?]
  exact h
theorem cut_last (xs : List D) : cutD xs (some (-1)) none = xs.getLast?.toList := by
  unfold cutD
  have e1 : HT.sIx xs.length 0 (some (-1)) = xs.length - 1 := by
    show (if (-1 : Int) < 0 then ((-1 : Int) + (xs.length : Int)).toNat else min (-1 : Int).toNat xs.length) = _
    rw [if_pos (by decide)]
    omega
  rw [e1, HT.sIx_none]
  rcases List.eq_nil_or_concat xs with rfl | ⟨ys, x, rfl⟩
  · rfl
  · simp
end FR
namespace FR
open PySem PySem.Spec PyProof.Rows L2
variable [TheW]
local macro_rules | `(tactic| walk_at "ev") => `(tactic| simp only [ev_xDNew, ev_xDispV, ev_xDispI, wp_qPar3, ev_xDGetT, ev_fDNewT, ev_sDPutT, wp_qDPutT, ev_xLcK, ev_xCallG, ev_poOpt, sem_ltX, sem_ltXS, ev_xVar, ev_xInt, ev_xStr, ev_xBl, ev_xTy, ev_xNon, ev_aNil, ev_aCons, ev_xTup, ev_xLst, ev_xOp2, ev_xUn, ev_xFn, ev_xCall, ev_tB_, ev_tTest_, ev_tYes_, ev_tNot_, ev_tAnd_, ev_tOr_, ev_xAnd, ev_xOr, ev_xNot, ev_xIf, ev_xChain, ev_poNone, ev_poSome, ev_gName_, ev_gNil_, ev_gCons_, ev_gTup_, ev_xLc, ev_sNext, ev_sSeq, ev_sDrop, ev_sRet, ev_sRetN, ev_sIf, ev_sAsg, ev_sBreak, ev_sCont, ev_sFor, ev_sWhile, ev_jSeq, ev_jRange1, ev_jRange2, ev_xSl, ev_xRevT, ev_jZip, ev_xPeek, ev_tPeek, ev_sNever, ev_sFz, ev_sOwn, ev_fLst, ev_fLc, ev_fListT, ev_sSetF, ev_sAppend, ev_sExtend, ev_sPar, ev_sAugI, ev_xLc2, ev_xFld, ev_xMeth, ev_xMake, ev_sFld_, ev_xDGet, ev_xDIn, ev_xDGet2, ev_xDc, ev_xValsKeys, ev_xLenSet, ev_xSortSet, ev_jZip3, ev_sParL, ev_sPar3, wp_qE, wp_qA, wp_qT, wp_qI, wp_qF, wp_qP, wp_qS, wp_qCons, wp_qTup, wp_qLst, wp_qOp2, wp_qUn, wp_qFn, wp_qCall, wp_qDraw, wp_qB, wp_qTest, wp_qNotT, wp_qAndT, wp_qOrT, wp_qAnd, wp_qOr, wp_qNot, wp_qIf, wp_qChain, wp_qPart, wp_qSeqI, wp_qRange1, wp_qRange2, wp_qLc, wp_qfLc, wp_qSeq, wp_qDrop, wp_qRet, wp_qIfS, wp_qAsg, wp_qFor, wp_qWhile, wp_qFz, wp_qSetF, wp_qAppend, wp_qExtend, wp_qPar, ev_jEnum1, ev_jEnum2, wp_qParM2, wp_qParM3, wp_qParMN, ev_sParM2, ev_sParM3, ev_sParMN, ev_fDNew, ev_fDict, wp_qfDict, wp_qfLst, ev_sDPut_, ev_fRep, ev_sIxPut, ev_jZipM, ev_xOrT, ev_xAndT, tru_lst, tru_tup, tru_non, tru_bl, List.getElem?_cons_zero, List.getElem?_cons_succ, List.set_cons_zero, List.set_cons_succ, List.map_cons, List.map_nil, List.length_cons, List.length_nil, List.length_map, Option.bind_some, Option.bind_none, atEnv_d, ownAt_o, blOf_b, inOf_i, lstOf_l, hide_d, hide_any, hide_own, hide_pot, frz_d, frz_any, frz_own, frz_pot, wipeE, when_t, when_f, end_rt, end_nx, Bool.not_true, Bool.not_false, lc1, Nat.zero_add, Nat.reduceAdd, Int.cast_ofNat_Int, beq_self_eq_true, Int.reduceBEq, Int.reduceLE, Int.reduceLT, decide_true, decide_false, Int.reduceNeg, Nat.reduceBEq, Bool.and_true, Bool.true_and, Bool.and_false, Bool.false_and, insOf_s, dctOf_d, keyOf_s, keyOf_i, unown, freeAt, ownAt_a, ownAt_dd, ownAt_p, blt_dec, Nat.reduceLT, Option.isNone_none, Option.isNone_some, fzAt, mpEv, parEnv, unowns, ex_some, ex_int, ex_two, ex_lst, at_nx, at_rt, isNon_i, isNon_s, isNon_n, true_and, and_true, nbeq, at0, at1, at2, sz0, sz1, sz2, sz3, sz4, sz5, sz6, sz7, sz8, bools_map, wholes_map, texts_map, all_id, any_id, sem_lt, sem_le, sem_gt, sem_ge, sem_ltS, sem_leS, sem_add, sem_addT, sem_addL, sem_sub, sem_mul, sem_mod, sem_div, sem_neg, sem_is, sem_isnt, sem_eqI, sem_neI, sem_eqS, sem_neS, sem_eqB, sem_lenT, sem_lenL, sem_lenS, sem_tupL, sem_tupT, sem_lstT, sem_lstL, sem_intI, sem_intB, sem_all, sem_any, sem_sum, sem_min, sem_max, sem_ixT, sem_ixL, sem_ixS, sem_repr, sem_slT, sem_slL, items_T, items_L, items_S, isi_int_int, isi_int_bool, isi_int_str, isi_int_tuple, isi_int_list, isi_int_dict, isi_bl_int, isi_bl_bool, isi_bl_str, isi_bl_tuple, isi_bl_list, isi_bl_dict, isi_str_int, isi_str_bool, isi_str_str, isi_str_tuple, isi_str_list, isi_str_dict, isi_tup_int, isi_tup_bool, isi_tup_str, isi_tup_tuple, isi_tup_list, isi_tup_dict, isi_lst_int, isi_lst_bool, isi_lst_str, isi_lst_tuple, isi_lst_list, isi_lst_dict, isi_non_int, isi_non_bool, isi_non_str, isi_non_tuple, isi_non_list, isi_non_dict, isi_dct_int, isi_dct_bool, isi_dct_str, isi_dct_tuple, isi_dct_list, isi_dct_dict])
local macro_rules | `(tactic| walk_at "evh") => `(tactic| simp only [*, ev_xDNew, ev_xDispV, ev_xDispI, wp_qPar3, ev_xDGetT, ev_fDNewT, ev_sDPutT, wp_qDPutT, ev_xLcK, ev_xCallG, ev_poOpt, sem_ltX, sem_ltXS, ev_xVar, ev_xInt, ev_xStr, ev_xBl, ev_xTy, ev_xNon, ev_aNil, ev_aCons, ev_xTup, ev_xLst, ev_xOp2, ev_xUn, ev_xFn, ev_xCall, ev_tB_, ev_tTest_, ev_tYes_, ev_tNot_, ev_tAnd_, ev_tOr_, ev_xAnd, ev_xOr, ev_xNot, ev_xIf, ev_xChain, ev_poNone, ev_poSome, ev_gName_, ev_gNil_, ev_gCons_, ev_gTup_, ev_xLc, ev_sNext, ev_sSeq, ev_sDrop, ev_sRet, ev_sRetN, ev_sIf, ev_sAsg, ev_sBreak, ev_sCont, ev_sFor, ev_sWhile, ev_jSeq, ev_jRange1, ev_jRange2, ev_xSl, ev_xRevT, ev_jZip, ev_xPeek, ev_tPeek, ev_sNever, ev_sFz, ev_sOwn, ev_fLst, ev_fLc, ev_fListT, ev_sSetF, ev_sAppend, ev_sExtend, ev_sPar, ev_sAugI, ev_xLc2, ev_xFld, ev_xMeth, ev_xMake, ev_sFld_, ev_xDGet, ev_xDIn, ev_xDGet2, ev_xDc, ev_xValsKeys, ev_xLenSet, ev_xSortSet, ev_jZip3, ev_sParL, ev_sPar3, wp_qE, wp_qA, wp_qT, wp_qI, wp_qF, wp_qP, wp_qS, wp_qCons, wp_qTup, wp_qLst, wp_qOp2, wp_qUn, wp_qFn, wp_qCall, wp_qDraw, wp_qB, wp_qTest, wp_qNotT, wp_qAndT, wp_qOrT, wp_qAnd, wp_qOr, wp_qNot, wp_qIf, wp_qChain, wp_qPart, wp_qSeqI, wp_qRange1, wp_qRange2, wp_qLc, wp_qfLc, wp_qSeq, wp_qDrop, wp_qRet, wp_qIfS, wp_qAsg, wp_qFor, wp_qWhile, wp_qFz, wp_qSetF, wp_qAppend, wp_qExtend, wp_qPar, ev_jEnum1, ev_jEnum2, wp_qParM2, wp_qParM3, wp_qParMN, ev_sParM2, ev_sParM3, ev_sParMN, ev_fDNew, ev_fDict, wp_qfDict, wp_qfLst, ev_sDPut_, ev_fRep, ev_sIxPut, ev_jZipM, ev_xOrT, ev_xAndT, tru_lst, tru_tup, tru_non, tru_bl, List.getElem?_cons_zero, List.getElem?_cons_succ, List.set_cons_zero, List.set_cons_succ, List.map_cons, List.map_nil, List.length_cons, List.length_nil, List.length_map, Option.bind_some, Option.bind_none, atEnv_d, ownAt_o, blOf_b, inOf_i, lstOf_l, hide_d, hide_any, hide_own, hide_pot, frz_d, frz_any, frz_own, frz_pot, wipeE, when_t, when_f, end_rt, end_nx, Bool.not_true, Bool.not_false, lc1, Nat.zero_add, Nat.reduceAdd, Int.cast_ofNat_Int, beq_self_eq_true, Int.reduceBEq, Int.reduceLE, Int.reduceLT, decide_true, decide_false, Int.reduceNeg, Nat.reduceBEq, Bool.and_true, Bool.true_and, Bool.and_false, Bool.false_and, insOf_s, dctOf_d, keyOf_s, keyOf_i, unown, freeAt, ownAt_a, ownAt_dd, ownAt_p, blt_dec, Nat.reduceLT, Option.isNone_none, Option.isNone_some, fzAt, mpEv, parEnv, unowns, ex_some, ex_int, ex_two, ex_lst, at_nx, at_rt, isNon_i, isNon_s, isNon_n, true_and, and_true, nbeq, at0, at1, at2, sz0, sz1, sz2, sz3, sz4, sz5, sz6, sz7, sz8, bools_map, wholes_map, texts_map, all_id, any_id, sem_lt, sem_le, sem_gt, sem_ge, sem_ltS, sem_leS, sem_add, sem_addT, sem_addL, sem_sub, sem_mul, sem_mod, sem_div, sem_neg, sem_is, sem_isnt, sem_eqI, sem_neI, sem_eqS, sem_neS, sem_eqB, sem_lenT, sem_lenL, sem_lenS, sem_tupL, sem_tupT, sem_lstT, sem_lstL, sem_intI, sem_intB, sem_all, sem_any, sem_sum, sem_min, sem_max, sem_ixT, sem_ixL, sem_ixS, sem_repr, sem_slT, sem_slL, items_T, items_L, items_S, isi_int_int, isi_int_bool, isi_int_str, isi_int_tuple, isi_int_list, isi_int_dict, isi_bl_int, isi_bl_bool, isi_bl_str, isi_bl_tuple, isi_bl_list, isi_bl_dict, isi_str_int, isi_str_bool, isi_str_str, isi_str_tuple, isi_str_list, isi_str_dict, isi_tup_int, isi_tup_bool, isi_tup_str, isi_tup_tuple, isi_tup_list, isi_tup_dict, isi_lst_int, isi_lst_bool, isi_lst_str, isi_lst_tuple, isi_lst_list, isi_lst_dict, isi_non_int, isi_non_bool, isi_non_str, isi_non_tuple, isi_non_list, isi_non_dict, isi_dct_int, isi_dct_bool, isi_dct_str, isi_dct_tuple, isi_dct_list, isi_dct_dict])

/-! ## loops that draw -/
theorem goForQ_all {g : Tgx} {b : QS} (R : Nat → List E → Prop) (c : Nat) : ∀ {ds : List D} {k m : Nat} {env : List E} {O : Out}, (∀ (i : Nat) (d : D) (env : List E) (m : Nat) (O' : Out), ds[i]? = some d → R (k + i) env → m + c ≤ potMost → (∀ env' m', R (k + i + 1) env' → m' ≤ m + c → O'.nx env' m') → ∃ env2, g.ev d env = some env2 ∧ b.wp m env2 O') →
    R k env → m + c * ds.length ≤ potMost → (∀ env' m', R (k + ds.length) env' → m' ≤ m + c * ds.length → O.nx env' m') → goForQ g b ds m env O
  | [], k, m, env, O, _, r, _, h => h env m r (by simp)
  | d :: ds, k, m, env, O, h1, r, hm, h2 => by
    rw [List.length_cons, Nat.mul_add] at hm h2
    obtain ⟨env2, e1, e2⟩ := h1 0 d env m { nx := fun e m => goForQ g b ds m e O, ct := fun e m => goForQ g b ds m e O, bk := O.nx, rt := O.rt } rfl r (by omega) fun env' m' r' hm' => by
      refine goForQ_all (k := k + 1) R c (fun i d env m O' hd hr => ?_) r' (by omega) fun env2 m2 r2 hm2 => ?_
      · have e : k + 1 + i = k + (i + 1) := by omega
        rw [e] at hr ⊢
        exact h1 (i + 1) d env m O' (by simpa using hd) hr
      · have e : k + 1 + ds.length = k + (ds.length + 1) := by omega
        rw [e] at r2
        exact h2 env2 m2 r2 (by omega)
    exact ⟨env2, e1, e2⟩
/-! ## texts in order -/
theorem asc_of_pw : ∀ {ks : List Str}, (ks.Pairwise fun a b => ltB a b = true) → ascB ks = true
  | [], _ => rfl
  | [x], _ => rfl
  | x :: y :: ks, h => by
    obtain ⟨h1, h2⟩ := List.pairwise_cons.mp h
    have := asc_of_pw h2
    show (ltB x y && ascB (y :: ks)) = true
    rw [h1 y (by simp), this]
    rfl
theorem lt_of_le {a b : Str} (h : leB a b) (hn : a ≠ b) : ltB a b = true := by
  cases e : ltB a b with
  | true => rfl
  | false => exact absurd (leB_anti h e) hn
theorem sort_asc {ks : List Str} (h : ks.Nodup) : ascB (sortS ks) = true := by
  have nd : (sortS ks).Nodup := (sortS_perm ks).nodup_iff.mpr h
  refine asc_of_pw ?_
  have := List.Pairwise.and (sortS_sorted ks) nd
  exact this.imp fun {a b} h => lt_of_le h.1 h.2
theorem sort_mem {ks : List Str} {x : Str} : x ∈ sortS ks ↔ x ∈ ks := (sortS_perm ks).mem_iff
theorem sort_len (ks : List Str) : (sortS ks).length = ks.length := (sortS_perm ks).length_eq
/-! ## dicts of names -/
def setK (xs : List Str) : List (Key × D) := xs.map fun x => (Sum.inr x, .bl true)
def addS (xs : List Str) (x : Str) : List Str := if x ∈ xs then xs else xs ++ [x]
theorem put_set (xs : List Str) (x : Str) : putKD (setK xs) (.inr x) (.bl true) = setK (addS xs x) := by
  unfold putKD addS
  have e : ((setK xs).any fun kv => decide (kv.1 = (Sum.inr x : Key))) = decide (x ∈ xs) := by
    unfold setK
    rw [List.any_map]
    rw [Bool.eq_iff_iff, List.any_eq_true, decide_eq_true_eq]
    constructor
    · rintro ⟨y, hy, h⟩
      simp only [Function.comp, decide_eq_true_eq, Sum.inr.injEq] at h
      exact h ▸ hy
    · intro h
      exact ⟨x, h, by simp⟩
  rw [e]
  by_cases h : x ∈ xs
  · rw [if_pos (decide_eq_true h), if_pos h]
    unfold setK
    rw [List.map_map]
    refine List.map_congr_left fun y _ => ?_
    simp only [Function.comp]
    split
    · rfl
    · rfl
  · rw [if_neg (by simpa using h), if_neg h]
    unfold setK
    rw [List.map_append]
    rfl
theorem merge_set : ∀ (ys xs : List Str), mergeKD (setK xs) (setK ys) = setK (ys.foldl addS xs)
  | [], xs => rfl
  | y :: ys, xs => by
    have e : mergeKD (setK xs) (setK (y :: ys)) = mergeKD (putKD (setK xs) (.inr y) (.bl true)) (setK ys) := rfl
    rw [e, put_set, merge_set ys]
    rfl
theorem txt_set : ∀ xs : List Str, txtKeys (setK xs) = some xs
  | [] => rfl
  | x :: xs => by
    show (txtKeys (setK xs)).bind _ = _
    rw [txt_set xs]
    rfl
theorem pairs_set : ∀ xs : List Str, pairsOf_ (xs.map fun x => D.tup [.str x, .bl true]) = some (setK xs)
  | [] => rfl
  | x :: xs => by
    show (pairsOf_ (xs.map fun x => D.tup [.str x, .bl true])).bind _ = _
    rw [pairs_set xs]
    rfl
theorem add_nd {xs : List Str} {x : Str} (h : xs.Nodup) : (addS xs x).Nodup := by
  unfold addS
  split
  · exact h
  · rename_i hx
    exact List.nodup_append.mpr ⟨h, by simp, fun a ha b hb => by simp at hb; subst hb; exact fun e => hx (e ▸ ha)⟩
theorem add_mem {xs : List Str} {x y : Str} (h : y ∈ addS xs x) : y ∈ xs ∨ y = x := by
  unfold addS at h
  split at h
  · exact .inl h
  · simpa using h
theorem add_len (xs : List Str) (x : Str) : (addS xs x).length ≤ xs.length + 1 := by
  unfold addS
  split
  · omega
  · simp
/-- names that a step may have behind it -/
structure Nms (names : List Str) (k : Nat) (xs : List Str) : Prop where
  nd : xs.Nodup
  sub : ∀ x ∈ xs, x ∈ names
  len : xs.length ≤ k
theorem Nms.nil (names : List Str) (k : Nat) : Nms names k [] := ⟨by simp, by simp, by simp⟩
theorem Nms.add {names : List Str} {k : Nat} {xs : List Str} {x : Str} (h : Nms names k xs) (hx : x ∈ names) : Nms names (k + 1) (addS xs x) :=
  ⟨add_nd h.nd, fun y hy => by rcases add_mem hy with a | rfl; exact h.sub y a; exact hx, Nat.le_trans (add_len xs x) (Nat.succ_le_succ h.len)⟩
theorem Nms.mono {names : List Str} {k j : Nat} {xs : List Str} (h : Nms names k xs) (l : k ≤ j) : Nms names j xs := ⟨h.nd, h.sub, Nat.le_trans h.len l⟩
theorem Nms.fold {names : List Str} : ∀ {ys : List Str} {k : Nat} {xs : List Str}, Nms names k xs → (∀ y ∈ ys, y ∈ names) → Nms names (k + ys.length) (ys.foldl addS xs)
  | [], k, xs, h, _ => h
  | y :: ys, k, xs, h, hy => by
    have := Nms.fold (ys := ys) (h.add (hy y (by simp))) fun z hz => hy z (List.mem_cons_of_mem _ hz)
    rw [List.length_cons]
    have e : k + (ys.length + 1) = k + 1 + ys.length := by omega
    rw [e]
    exact this
/-- the names that a draw of one has -/
theorem strs_of {P : Str → Prop} : ∀ {ys : List D}, (∀ y ∈ ys, ∃ x : Str, y = .str x ∧ P x) → ∃ xs : List Str, ys = xs.map .str ∧ ∀ x ∈ xs, P x
  | [], _ => ⟨[], rfl, by simp⟩
  | y :: ys, h => by
    obtain ⟨s, rfl, a⟩ := h y (by simp)
    obtain ⟨l, rfl, b⟩ := strs_of fun z hz => h z (List.mem_cons_of_mem _ hz)
    exact ⟨s :: l, rfl, fun x hx => by
      rcases List.mem_cons.mp hx with rfl | hx
      · exact a
      · exact b x hx⟩
theorem enc_of {α : Type} {enc : α → D} {P : α → Prop} : ∀ {ys : List D}, (∀ y ∈ ys, ∃ x : α, y = enc x ∧ P x) → ∃ xs : List α, ys = xs.map enc ∧ ∀ x ∈ xs, P x
  | [], _ => ⟨[], rfl, by simp⟩
  | y :: ys, h => by
    obtain ⟨s, rfl, a⟩ := h y (by simp)
    obtain ⟨l, rfl, b⟩ := enc_of fun z hz => h z (List.mem_cons_of_mem _ hz)
    exact ⟨s :: l, rfl, fun x hx => by
      rcases List.mem_cons.mp hx with rfl | hx
      · exact a
      · exact b x hx⟩
end FR
namespace FR
open PySem PySem.Spec PyProof.Rows L2
variable [TheW]


theorem sz {n : Nat} (h : Nat.ble n 16777216 = true) : n ≤ sizeLine := by
  rw [sizeLine_eq]
  exact Nat.le_of_ble_eq_true h
theorem ws_set {W : Wo} {n : Nat} {env : List E} {te : TE} {i : Nat} {O : Out} (q : Wp W te n env fun d n' => O.nx (env.set i (.d d)) n') : WpS W (tAsg te (gName i)) n env O := ws_asg (L := [i]) (q.mono fun d m h => wg_name h)
theorem if_b {A B : Prop} {b : Bool} (h1 : b = true → A) (h2 : b = false → B) : if b = true then A else B := by
  cases b with
  | true => exact h1 rfl
  | false => exact h2 rfl
local macro_rules | `(tactic| walk_at "w") => `(tactic| first
  | with_reducible refine ws_seq ?_ | with_reducible refine ws_next ?_ | with_reducible refine ws_ret ?_ | with_reducible refine ws_retN ?_ | with_reducible refine ws_if ?_ | with_reducible refine ws_drop ?_ | with_reducible refine ws_set ?_ | with_reducible refine wg_name ?_
  | refine wp_var rfl ?_ | with_reducible refine wp_ci ?_ | with_reducible refine wp_cs ?_ | with_reducible refine wp_cb ?_ | with_reducible refine wp_cn ?_ | with_reducible refine wp_ct ?_
  | with_reducible refine wpA_nil ?_ | with_reducible refine wpA_cons ?_ | with_reducible refine wp_tup ?_ | with_reducible refine wp_lst ?_ | with_reducible refine wp_op ?_ | with_reducible refine wp_un ?_ | with_reducible refine wp_cb2 ?_ | with_reducible refine wp_if ?_
  | with_reducible refine wp_andV ?_ | with_reducible refine wp_orV ?_ | with_reducible refine wp_notV ?_ | with_reducible refine wp_chain ?_
  | with_reducible refine wpT_B ?_ | with_reducible refine wpT_test ?_ | with_reducible refine wpT_and ?_ | with_reducible refine wpT_or ?_ | with_reducible refine wpT_not ?_ | with_reducible refine wpT_yes ?_
  | refine op2_i (fun _ _ => .bl _) ?_ | refine op2_i (fun _ _ => .int _) ?_
  | refine L2.iteT ?_ | refine L2.iteF ?_ | refine And.intro (sz rfl) ?_
  | refine ⟨_, rfl, ?_⟩)
local macro_rules | `(tactic| walk_at "ws") => `(tactic| repeat walk_at "w")


section
variable {W : Wo} {n : Nat} {Φ : D → Nat → Prop} {i j : Int}
theorem op_abs1 (q : Φ (.int (if i < 0 then -i else i)) n) : OpN W (fun xs H Q => ∃ i, xs = [.int i] ∧ Q (.int (if i < 0 then -i else i)) H) n [.int i] Φ :=
  opN1 (op1_pure (fun vx H Q h k => by cases h; exact ⟨_, rfl, k⟩) (fun _ _ => .int _) q)
theorem op_int_i (q : Φ (.int i) n) : OpN W (fun xs H Q => (∃ i, xs = [.int i] ∧ Q (.int i) H) ∨ ∃ k, xs = [.bl k] ∧ Q (.int (if k then 1 else 0)) H) n [.int i] Φ :=
  opN1 (op1_pure (fun vx H Q h k => by cases h; exact .inl ⟨_, rfl, k⟩) (fun _ _ => .int _) q)
theorem op_int_b {b : Bool} (q : Φ (.int (if b then 1 else 0)) n) : OpN W (fun xs H Q => (∃ i, xs = [.int i] ∧ Q (.int i) H) ∨ ∃ k, xs = [.bl k] ∧ Q (.int (if k then 1 else 0)) H) n [.bl b] Φ :=
  opN1 (op1_pure (fun vx H Q h k => by cases h; exact .inr ⟨_, rfl, k⟩) (fun _ _ => .int _) q)
end

abbrev s_law_jar : Stmt := top 12
abbrev N_law_jar : List Str := ["_law_script", "_law_k", "_law_cell", "_law_own"]
theorem sc_law_jar : FnScope N_law_jar ["_law_script", "_law_k"] (defScope s_law_jar) := ⟨rfl, rfl, rfl, by decide +kernel, rfl, by decide +kernel, by decide +kernel⟩

abbrev s_law_take : Stmt := top 13
abbrev N_law_take : List Str := ["_law_jar_here", "_law_many", "_law_prime", "_law_mixed", "_law_digit"]
theorem sc_law_take : FnScope N_law_take ["_law_jar_here", "_law_many"] (defScope s_law_take) := ⟨rfl, rfl, rfl, by decide +kernel, rfl, by decide +kernel, by decide +kernel⟩


def CPot : List D → (D → Prop) → Prop := fun ds Φ => ∃ (ns : List Int) (k : Int), ds = [.lsq (ns.map D.int), .int k] ∧ 0 ≤ k ∧ k ≤ 100 ∧ ∀ a b : Int, 0 ≤ a → a < 10 ^ 300 → 0 ≤ b → b < 2305843009213693921 → Φ (.lst [.int a, .int b, .int 0])
theorem CPot.len {ds : List D} {Φ : D → Prop} (h : CPot ds Φ) : ds.length = 2 := by obtain ⟨x, y, rfl, _⟩ := h; rfl
/-- a draw below many -/
def CTake : List D → Nat → (D → Nat → Prop) → Prop := fun ds n Φ => ∃ m : Int, ds = [.int m] ∧ 0 < m ∧ m ≤ 1000000 ∧ n < potMost ∧ ∀ r : Int, 0 ≤ r → r < m → Φ (.int r) (n + 1)
theorem CTake.len {ds : List D} {n : Nat} {Φ : D → Nat → Prop} (h : CTake ds n Φ) : ds.length + 1 = 2 := by obtain ⟨x, rfl, _⟩ := h; rfl
/-- one of some -/
def COf : List D → Nat → (D → Nat → Prop) → Prop := fun ds n Φ => ∃ xs : List D, ds = [.lst xs] ∧ xs ≠ [] ∧ xs.length ≤ 1000 ∧ n < potMost ∧ ∀ x ∈ xs, Φ x (n + 1)
theorem COf.len {ds : List D} {n : Nat} {Φ : D → Nat → Prop} (h : COf ds n Φ) : ds.length + 1 = 2 := by obtain ⟨x, rfl, _⟩ := h; rfl

section
variable {P : Program} {K : PySem.W.Frag} {mg : Str → Option Value} {base : Heap}
theorem own_lt (c : Int) (b : Bool) : 0 ≤ (if c < 0 then -c else c) % ((10 ^ (60 : Int).toNat) ^ (4 : Int).toNat) * (if b then 1 else 0) ∧ (if c < 0 then -c else c) % ((10 ^ (60 : Int).toNat) ^ (4 : Int).toNat) * (if b then 1 else 0) < (10 : Int) ^ 300 := by
  have e : ((10 ^ (60 : Int).toNat) ^ (4 : Int).toNat : Int) = 10 ^ 240 := by decide +kernel
  rw [e]
  have p : (0 : Int) < 10 ^ 240 := by decide +kernel
  have p3 : (10 : Int) ^ 240 < 10 ^ 300 := by decide +kernel
  have h1 := Int.emod_nonneg (if c < 0 then -c else c) (Int.ne_of_gt p)
  have h2 := Int.emod_lt_of_pos (if c < 0 then -c else c) p
  generalize (if c < 0 then -c else c) % (10 ^ 240 : Int) = z at *
  cases b with
  | true => simp only [if_true, Int.mul_one]; exact ⟨h1, Int.lt_trans h2 p3⟩
  | false => simp only [Bool.false_eq_true, if_false, Int.mul_zero]; exact ⟨Int.le_refl _, Int.lt_trans p p3⟩
theorem one_small (b : Bool) : -(2 ^ 64) < (if b = true then (1 : Int) else 0) ∧ (if b = true then (1 : Int) else 0) < 2 ^ 64 := by cases b <;> decide
theorem ok_law_jar (T : Txt mg) (Dd : DefIn K mg "_law_jar" s_law_jar ["_law_script", "_law_k"]) : Has P TheW.w K mg base 1 "_law_jar" ["_law_script", "_law_k"] (spD K CPot) := by
  refine has_D Dd sc_law_jar (fun _ _ h => h.len) fun f cdv B out t H E gu hr => ⟨_, (pss_cons (ps_set (i := 2) sc_law_jar.nd rfl (Or.inl rfl) (pe_ifExp (pt_cmpR op_lt (pv 1) (pe_callB (k_len (K := K) rfl) (by rfl) T.n_len PySem.boot_len (pa_cons (pv 0) pa_nil)) (nomark _)) (pe_ix (k_ixL (K := K) rfl) (pv 0) (pv 1) (fun _ _ => rfl)) (pe_op op_add (pe_op op_mul pe_int (pv 1)) pe_int)))
      (pss_cons (ps_set (i := 3) sc_law_jar.nd rfl (Or.inl rfl) (pe_op op_mul (pe_op op_mod (pe_callTy call_int1 (by rfl) T.n_int (by decide +kernel) (pa_cons (pe_callB call_abs (by rfl) T.n_abs (by decide +kernel) (pa_cons (pv 2) pa_nil)) pa_nil)) (pe_op op_powW (pe_op op_pow pe_int pe_int) pe_int)) (pe_callTy call_int1 (by rfl) T.n_int (by decide +kernel) (pa_cons (pe_cmpR op_ge (pe_callB call_abs (by rfl) T.n_abs (by decide +kernel) (pa_cons (pv 2) pa_nil)) (pe_op op_pow pe_int pe_int) (nomark _)) pa_nil))))
      (pss_one (ps_ret (pe_lst (pa_cons (pv 3) (pa_cons (pe_op op_mod (pe_callTy call_int1 (by rfl) T.n_int (by decide +kernel) (pa_cons (pe_op op_add (pe_op op_add (pe_op op_mul (pe_op op_mod (pe_callTy call_int1 (by rfl) T.n_int (by decide +kernel) (pa_cons (pv 2) pa_nil)) pe_int) pe_int) (pe_op op_mul (pe_op op_mul pe_int (pv 1)) (pv 1))) pe_int) pa_nil)) pe_int) (pa_cons pe_int pa_nil)))))))), fun W ds Φ hK hC => ?_⟩
  subst hK
  obtain ⟨ns, k, rfl, k0, k1, hΦ⟩ := hC
  refine ws_seq (ws_set ?_)
  refine Wp.mono (Φ := fun d m => m = 0 ∧ ∃ c, d = .int c) ?_ ?_
  · walk_at "ws"
    refine op_len_q ?_
    walk_at "ws"
    refine if_b (fun h => ?_) (fun h => ?_)
    · have h' : k < (ns.length : Int) := by have := of_decide_eq_true h; simpa using this
      walk_at "ws"
      have hk : k.toNat < ns.length := by omega
      refine op_ixLq (d := .int (ns[k.toNat])) ?_ ⟨rfl, _, rfl⟩
      unfold atI ixN
      rw [if_pos k0, if_pos (by simpa using h')]
      show (ns.map D.int)[k.toNat]? = _
      rw [List.getElem?_map, List.getElem?_eq_getElem hk]
      rfl
    · walk_at "ws"
      refine op2_ic (.inl ⟨by decide, by decide⟩) (fun _ _ => .int _) ?_
      walk_at "ws"
      exact ⟨rfl, _, rfl⟩
  · rintro d m ⟨rfl, c, rfl⟩
    walk_at "ws"
    refine op_abs1 ?_
    walk_at "ws"
    refine op_int_i ?_
    walk_at "ws"
    refine op2_ic ⟨by decide, by decide, by decide⟩ (fun _ _ => .int _) ?_
    walk_at "ws"
    refine op2_ic ⟨by decide, by decide +kernel⟩ (fun _ _ => .int _) ?_
    refine op2_ic (by decide +kernel) (fun _ _ => .int _) ?_
    walk_at "ws"
    refine op_abs1 ?_
    walk_at "ws"
    refine op2_ic ⟨by decide, by decide, by decide⟩ (fun _ _ => .int _) ?_
    walk_at "ws"
    refine op_int_b ?_
    refine op2_ic (.inr ?_) (fun _ _ => .int _) ?_
    · exact one_small _
    walk_at "ws"
    refine op_int_i ?_
    walk_at "ws"
    refine op2_ic (by decide) (fun _ _ => .int _) ?_
    walk_at "ws"
    refine op2_ic (.inr ⟨by decide, by decide⟩) (fun _ _ => .int _) ?_
    walk_at "ws"
    refine op2_ic (.inl ⟨by decide, by decide⟩) (fun _ _ => .int _) ?_
    walk_at "ws"
    refine op2_ic (.inr ⟨by omega, by omega⟩) (fun _ _ => .int _) ?_
    walk_at "ws"
    refine op_int_i ?_
    walk_at "ws"
    refine op2_ic (by decide) (fun _ _ => .int _) ?_
    walk_at "ws"
    refine hΦ _ _ (own_lt c _).1 (own_lt c _).2 (Int.emod_nonneg _ (by decide)) (Int.emod_lt_of_pos _ (by decide))
theorem ixL3 {a b c : V} (i : Nat) (h : i < 3) : atI [a, b, c] ((i : Nat) : Int) = [a, b, c][i]? := by
  unfold atI ixN
  rw [if_pos (by omega), if_pos (by simp only [List.length_cons, List.length_nil]; omega)]
  rfl
theorem ixN3 {xs : List V} (hx : xs.length = 3) (i : Nat) (h : i < 3) : ixN xs.length ((i : Nat) : Int) = some i := by
  unfold ixN
  rw [if_pos (by omega), if_pos (by omega)]
  rfl
theorem pot_upd {H : Hp} {p : Addr} {xs : List V} {a b c : Int} {n : Nat} (ha : 0 ≤ a) (ha2 : a < 10 ^ 300) (hb : 0 ≤ b) (hb2 : b < 2305843009213693921) (hc : 0 ≤ c) (hc2 : c ≤ n) : PotOk (upd H p (.lst [.int a, .int b, .int c])) p n :=
  ⟨a, b, c, upd_same, ha, ha2, hb, hb2, hc, hc2⟩
theorem div_lt {a m : Int} (ha : 0 ≤ a) (h : a < 10 ^ 300) (hm : 0 < m) : 0 ≤ a / m ∧ a / m < 10 ^ 300 :=
  ⟨Int.ediv_nonneg ha (by omega), Int.lt_of_le_of_lt (Int.ediv_le_self m ha) h⟩
theorem prime_at (k : Nat) (h : k < 5) : ∃ q : Int, atI [V.int 2147483647, V.int 2147483629, V.int 2147483587, V.int 2147483579, V.int 2147483563] ((k : Nat) : Int) = some (.int q) ∧ 0 < q ∧ q ≤ 2147483647 := by
  match k, h with
  | 0, _ => exact ⟨_, rfl, by decide, by decide⟩
  | 1, _ => exact ⟨_, rfl, by decide, by decide⟩
  | 2, _ => exact ⟨_, rfl, by decide, by decide⟩
  | 3, _ => exact ⟨_, rfl, by decide, by decide⟩
  | 4, _ => exact ⟨_, rfl, by decide, by decide⟩
theorem ok_law_take (T : Txt mg) (Dd : DefIn K mg "_law_take" s_law_take ["_law_jar_here", "_law_many"]) : Has P TheW.w K mg base 1 "_law_take" ["_law_jar_here", "_law_many"] (spP K CTake) := by
  refine has_sp Dd sc_law_take (fun vs H Q E h => ?_) fun f cdv B out t H vs Q E gu hr h => ?_
  · obtain ⟨M, p, us, n, ds, Φ, rfl, _, _, _, r, c, _⟩ := h
    obtain ⟨m, rfl, _⟩ := c
    rw [List.length_cons, r.len]; rfl
  · obtain ⟨M, p, us, n, ds, Φ, rfl, hp, hM, ⟨a, b, c, hH, a0, a1, b0, b1, c0, c1⟩, r, ⟨m, rfl, m0, m1, hn, hΦ⟩, k⟩ := h
    cases r with
    | cons r1 r2 =>
      cases r2
      cases r1
      have kp : ∀ xs, ∀ b o, b ≠ p → H b = some o → upd H p (.lst xs) b = some o := fun xs b o hb e => by rw [upd_ne hb]; exact e
      refine ⟨_, (pss_cons (ps_if (pt_cmpR op_gt (pe_ix (k_ixL (K := K) rfl) (pv 0) pe_int (fun _ _ => rfl)) pe_int (nomark _)) (pss_cons (ps_set (i := 4) sc_law_take.nd rfl (Or.inl rfl) (pe_op op_mod (pe_callTy call_int1 (by rfl) T.n_int (by decide +kernel) (pa_cons (pe_ix (k_ixL (K := K) rfl) (pv 0) pe_int (fun _ _ => rfl)) pa_nil)) (pv 1)))
      (pss_cons (ps_asg (pe_op op_fdiv (pe_ix (k_ixL (K := K) rfl) (pv 0) pe_int (fun _ _ => rfl)) (pv 1)) (pg_sub (pv 0) pe_int set_list))
      (pss_one (ps_ret (pv 4))))) pss_nil)
      (pss_cons (ps_asg (pe_op op_add (pe_ix (k_ixL (K := K) rfl) (pv 0) pe_int (fun _ _ => rfl)) pe_int) (pg_sub (pv 0) pe_int set_list))
      (pss_cons (ps_set (i := 2) sc_law_take.nd rfl (Or.inl rfl) (pe_ix (k_ixL (K := K) rfl) (pe_lst (pa_cons pe_int (pa_cons pe_int (pa_cons pe_int (pa_cons pe_int (pa_cons pe_int pa_nil)))))) (pe_op op_mod (pe_callTy call_int1 (by rfl) T.n_int (by decide +kernel) (pa_cons (pe_ix (k_ixL (K := K) rfl) (pv 0) pe_int (fun _ _ => rfl)) pa_nil)) pe_int) (fun _ _ => rfl)))
      (pss_cons (ps_set (i := 3) sc_law_take.nd rfl (Or.inl rfl) (pe_op op_mod (pe_callTy call_int1 (by rfl) T.n_int (by decide +kernel) (pa_cons (pe_op op_pow (pe_op op_add (pe_op op_add (pe_ix (k_ixL (K := K) rfl) (pv 0) pe_int (fun _ _ => rfl)) (pe_op op_mul (pe_op op_mul pe_int (pe_ix (k_ixL (K := K) rfl) (pv 0) pe_int (fun _ _ => rfl))) (pe_ix (k_ixL (K := K) rfl) (pv 0) pe_int (fun _ _ => rfl)))) pe_int) pe_int) pa_nil)) (pv 2)))
      (pss_cons (ps_set (i := 3) sc_law_take.nd rfl (Or.inl rfl) (pe_op op_mod (pe_callTy call_int1 (by rfl) T.n_int (by decide +kernel) (pa_cons (pe_op op_mul (pv 3) (pe_op op_add (pe_op op_mod (pe_callTy call_int1 (by rfl) T.n_int (by decide +kernel) (pa_cons (pv 3) pa_nil)) pe_int) (pe_op op_mul pe_int (pe_ix (k_ixL (K := K) rfl) (pv 0) pe_int (fun _ _ => rfl))))) pa_nil)) pe_int))
      (pss_one (ps_ret (pe_op op_mod (pe_callTy call_int1 (by rfl) T.n_int (by decide +kernel) (pa_cons (pe_op op_fdiv (pv 3) pe_int) pa_nil)) (pv 1))))))))), ?_⟩
      refine ⟨_, rfl, p, _, 0, _, rfl, rfl, .inl (.inl hH), ixL3 0 (by decide), _, _, rfl, rfl, _, rfl, ?_⟩
      refine if_b (fun h0 => ?_) (fun h0 => ?_)
      · refine ⟨_, rfl, p, _, 0, _, rfl, rfl, .inl (.inl hH), ixL3 0 (by decide), .inl ⟨_, rfl, _, rfl, _, _, rfl, rfl, m0, ?_⟩⟩
        refine ⟨_, rfl, p, _, 0, _, rfl, rfl, .inl (.inl hH), ixL3 0 (by decide), _, rfl, _, _, rfl, rfl, ⟨m0, by omega⟩, _, rfl, p, _, _, 0, rfl, rfl, hH, ixN3 rfl 0 (by decide), ?_⟩
        refine ⟨_, rfl, ?_⟩
        have hd := div_lt a0 a1 m0
        exact k _ _ _ _ (hΦ (a % m) (Int.emod_nonneg _ (by omega)) (Int.emod_lt_of_pos _ m0)) (kp _) (pot_upd (xs := []) hd.1 hd.2 b0 b1 c0 (by omega)) (.int _)
      · refine ⟨_, rfl, p, _, 2, _, rfl, rfl, .inl (.inl hH), ixL3 2 (by decide), _, _, rfl, rfl, _, rfl, p, _, _, 2, rfl, rfl, hH, ixN3 rfl 2 (by decide), ?_⟩
        generalize hH1e : upd H p (.lst (List.set [V.int a, V.int b, V.int c] 2 (V.int (c + 1)))) = H1
        have hH1 : H1 p = some (.lst [.int a, .int b, .int (c + 1)]) := by rw [← hH1e]; exact upd_same
        have k1 : ∀ b o, b ≠ p → H b = some o → H1 b = some o := fun b o hb e => by rw [← hH1e, upd_ne hb]; exact e
        refine ⟨sz rfl, fun q hq => ?_⟩
        have npq : p ≠ q := ne_of_none hH1 hq
        generalize hH2e : upd H1 q (.lst _) = H2
        have hH2 : H2 p = some (.lst [.int a, .int b, .int (c + 1)]) := by rw [← hH2e, upd_ne npq]; exact hH1
        have hq2 : H2 q = some (.lst [V.int 2147483647, V.int 2147483629, V.int 2147483587, V.int 2147483579, V.int 2147483563]) := by rw [← hH2e]; exact upd_same
        have k2 : ∀ b o, b ≠ p → H b = some o → H2 b = some o := fun b o hb e => by
          rw [← hH2e, upd_ne (ne_of_none (k1 b o hb e) hq)]; exact k1 b o hb e
        have S : SqL K H2 p [.int a, .int b, .int (c + 1)] := .inl (.inl hH2)
        obtain ⟨j, hj, ej⟩ : ∃ j : Nat, j < 5 ∧ (c + 1) % 5 = ((j : Nat) : Int) := ⟨((c + 1) % 5).toNat, by omega, by omega⟩
        obtain ⟨pr, ep, pr0, pr1⟩ := prime_at j hj
        refine ⟨_, rfl, p, _, 2, _, rfl, rfl, S, ixL3 2 (by decide), .inl ⟨_, rfl, _, _, rfl, rfl, (by show (0 : Int) < 5; decide), q, _, _, _, rfl, rfl, .inl (.inl hq2), (by rw [ej]; exact ep), ?_⟩⟩
        have cn : c + 1 ≤ 1000000 := by have : potMost = 1000000 := rfl; omega
        have hb3 : b + 48611 * (c + 1) * (c + 1) + 29 < 2 ^ 63 ∧ 0 ≤ b + 48611 * (c + 1) * (c + 1) + 29 := by
          have e1 : 48611 * (c + 1) ≤ 48611 * 1000000 := by omega
          have e2 : 48611 * (c + 1) * (c + 1) ≤ 48611 * 1000000 * 1000000 := Int.mul_le_mul e1 cn (by omega) (by decide)
          have e3 : 0 ≤ 48611 * (c + 1) * (c + 1) := Int.mul_nonneg (by omega) (by omega)
          constructor
          · omega
          · omega
        refine ⟨_, rfl, p, _, 1, _, rfl, rfl, S, ixL3 1 (by decide), _, rfl, p, _, 2, _, rfl, rfl, S, ixL3 2 (by decide), _, _, rfl, rfl, .inl ⟨by decide, by decide⟩,
          _, rfl, p, _, 2, _, rfl, rfl, S, ixL3 2 (by decide), _, _, rfl, rfl, .inr ⟨by omega, by omega⟩, _, _, rfl, rfl, _, _, rfl, rfl, _, _, rfl, rfl, ⟨by decide, by decide, by omega⟩, .inl ⟨_, rfl, _, rfl, _, _, rfl, rfl, pr0, ?_⟩⟩
        generalize hmx : (b + 48611 * (c + 1) * (c + 1) + 29) ^ (3 : Int).toNat % pr = mx
        have mx0 : 0 ≤ mx := by rw [← hmx]; exact Int.emod_nonneg _ (by omega)
        have mx1 : mx < pr := by rw [← hmx]; exact Int.emod_lt_of_pos _ pr0
        refine ⟨_, rfl, _, rfl, .inl ⟨_, rfl, _, _, rfl, rfl, (by show (0 : Int) < 10009; decide), _, rfl, p, _, 2, _, rfl, rfl, S, ixL3 2 (by decide), _, _, rfl, rfl, .inl ⟨by decide, by decide⟩, _, _, rfl, rfl, _, _, rfl, rfl, .inl ⟨by omega, by omega⟩, .inl ⟨_, rfl, _, _, rfl, rfl, (by show (0 : Int) < 2305843009213693907; decide), ?_⟩⟩⟩
        refine ⟨_, rfl, _, _, rfl, rfl, ⟨by decide, by decide⟩, .inl ⟨_, rfl, _, rfl, _, _, rfl, rfl, m0, ?_⟩⟩
        exact k _ _ _ _ (hΦ _ (Int.emod_nonneg _ (by omega)) (Int.emod_lt_of_pos _ m0)) k2 ⟨a, b, c + 1, hH2, a0, a1, b0, b1, by omega, by omega⟩ (.int _)
end
end FR
namespace FR
open PySem PySem.Spec PyProof.Rows L2
variable [TheW]
section
variable {P : Program} {K : PySem.W.Frag} {mg : Str → Option Value} {base : Heap}
abbrev s_law_of : Stmt := top 14
abbrev N_law_of : List Str := ["_law_jar_here", "_law_some"]
theorem sc_law_of : FnScope N_law_of ["_law_jar_here", "_law_some"] (defScope s_law_of) := ⟨rfl, rfl, rfl, by decide +kernel, rfl, by decide +kernel, by decide +kernel⟩
def b_law_of : QS := (qRet (qOp2 mIx (qE (xVar 1)) (qDraw CTake 0 (qA (aCons (xFn mLen (aCons (xVar 1) aNil)) aNil)))))
def m_law_of : List D → Nat → (D → Nat → Prop) → Prop := fnQ N_law_of 2 b_law_of
theorem ok_law_of (T : Txt mg) (TC : TxtC K) (sysb : SysB base) (Dd : DefIn K mg "_law_of" s_law_of ["_law_jar_here", "_law_some"]) (h_law_take : Has P TheW.w K mg base 1 "_law_take" ["_law_jar_here", "_law_many"] (spP K CTake)) : Has P TheW.w K mg base 2 "_law_of" ["_law_jar_here", "_law_some"] (spP K m_law_of) :=
  has_Q (k := 1) Dd sc_law_of 2 rfl b_law_of (by repeat (first | exact trivial | exact TC.cl | refine And.intro ?_ ?_)) (fun f cdv B out t H E gu hr => (pss_one (ps_ret (pe_ix (r_ix (K := K) rfl) (pv 1) (pe_has h_law_take gu (hr.mono (by decide)) (by rfl) (pa_cons (pv 0) (pa_cons (pe_callB (r_len (K := K) rfl) (by rfl) T.n_len PySem.boot_len (pa_cons (pv 1) pa_nil)) pa_nil))) (fun _ _ => rfl))))) (by unfold b_law_of; (simp only [List.map_cons, List.map_nil, te_xVar, te_xInt, te_xStr, te_xBl, te_xTy, te_xNon, te_aNil, te_aCons, te_xTup, te_xLst, te_xOp2, te_xUn, te_xFn, te_xCall, te_tB_, te_tTest_, te_tYes_, te_tNot_, te_tAnd_, te_tOr_, te_xAnd, te_xOr, te_xNot, te_xIf, te_xChain, te_poNone, te_poSome, te_gName_, te_gNil_, te_gCons_, te_gTup_, te_xLc, te_sNext, te_sSeq, te_sDrop, te_sRet, te_sRetN, te_sIf, te_sAsg, te_sBreak, te_sCont, te_sFor, te_sWhile, te_jSeq, te_jRange1, te_jRange2, te_xSl, te_xRevT, te_jZip, te_xPeek, te_tPeek, te_sNever, te_sFz, te_sOwn, te_fLst, te_fLc, te_fListT, te_sSetF, te_sAppend, te_sExtend, te_sPar, te_sAugI, te_xLc2, te_xFld, te_xMeth, te_xMake, te_sFld_, te_xDGet, te_xDIn, te_xDGet2, te_xDc, te_xValsKeys, te_xLenSet, te_xSortSet, te_jZip3, te_sParL, te_sPar3, te_jEnum1, te_jEnum2, te_qCons, te_qTup, te_qLst, te_qOp2, te_qUn, te_qFn, te_qCall, te_qDraw, te_qB, te_qTest, te_qNotT, te_qAndT, te_qOrT, te_qAnd, te_qOr, te_qNot, te_qIf, te_qChain, te_qPart, te_qSeqI, te_qRange1, te_qRange2, te_qLc, te_qfLc, te_qSeq, te_qDrop, te_qRet, te_qIfS, te_qAsg, te_qFor, te_qWhile, te_qFz, te_qSetF, te_qAppend, te_qExtend, te_qPar, te_qE, te_qA, te_qT, te_qI, te_qF, te_qP, te_qS, te_mxNil, te_mxD, te_mxO, te_mpNil, te_mpD, te_mpO, te_gNames0, te_gNames1, te_sParM2, te_sParM3, te_sParMN, te_qParM2, te_qParM3, te_qParMN, te_fDNew, te_fDict, te_qfDict, te_qfLst, te_sDPut_, te_fRep, te_sIxPut, te_jZipM, te_xOrT, te_xAndT, te_qPar3, te_xDGetT, te_fDNewT, te_sDPutT, te_qDPutT, te_xLcK, to_poOpt, te_xCallG, te_xDNew, te_xDispV, te_xDispI
] <;> rfl))
abbrev s_law_asked : Stmt := top 16
abbrev N_law_asked : List Str := ["_law_jar_here", "_law_rows_here", "_law_turn", "_law_found", "_law_names", "_law_some", "_law_row", "_law_word"]
theorem sc_law_asked : FnScope N_law_asked ["_law_jar_here", "_law_rows_here"] (defScope s_law_asked) := ⟨rfl, rfl, rfl, by decide +kernel, rfl, by decide +kernel, by decide +kernel⟩
def b_law_asked_1_2 : QS := (qDPutT 3 (qE (xVar 7)) (qDraw m_law_of 0 (qA (aCons (xLst (aCons (xInt 1) (aCons (xInt 1) (aCons (xUn mNeg (xInt 1)) (aCons (xInt 2) (aCons (xUn mNeg (xInt 3)) (aCons (xOp2 mPow (xInt 10) (xInt 6)) aNil))))))) aNil))))
def b_law_asked_1_1 : QS := (qSeq (qAsg (qDraw m_law_of 0 (qA (aCons (xVar 5) aNil))) (gName_ 7)) b_law_asked_1_2)
def b_law_asked_1_0 : QS := (qSeq (qAsg (qLst (qCons (qE (xTup (aCons (xStr "kind") (aCons (xStr "x") aNil)))) (qCons (qE (xTup (aCons (xStr "kind") (aCons (xStr "y") aNil)))) (qCons (qE (xTup (aCons (xStr "kind") (aCons (xStr "z") aNil)))) (qCons (qE (xTup (aCons (xStr "kind") (aCons (xStr "w") aNil)))) (qCons (qTup (qCons (qE (xStr "step")) (qCons (qDraw m_law_of 0 (qA (aCons (xVar 4) aNil))) (qA aNil)))) (qA aNil))))))) (gName_ 5)) b_law_asked_1_1)
def b_law_asked_2 : QS := (qS (sFz [3] (sRet (xFn mTuple (aCons (xFn mSorted (aCons (xLcK 3 (gName_ 7) tYes_ (xOp2 mAdd (xVar 7) (xTup (aCons (xDGetT (xVar 3) (xVar 7)) aNil))) [7] (id rfl)) aNil)) aNil)))))
def b_law_asked_1 : QS := (qSeq (qFor (qRange1 (qCons (qOp2 mAdd (qE (xInt 1)) (qDraw CTake 0 (qA (aCons (xInt 3) aNil)))) (qA aNil))) (gName_ 2) b_law_asked_1_0) b_law_asked_2)
def b_law_asked_0 : QS := (qSeq (qS (sParMN [3] [3, 4] [.o fDNewT, .d (xLc (jSeq (xVar 1)) (gName_ 6) tYes_ (xOp2 mIx (xVar 6) (xInt 0)) [6] (id rfl))])) b_law_asked_1)
def b_law_asked : QS := b_law_asked_0
def m_law_asked : List D → Nat → (D → Nat → Prop) → Prop := fnQ N_law_asked 2 b_law_asked
theorem ok_law_asked (T : Txt mg) (TC : TxtC K) (sysb : SysB base) (Dd : DefIn K mg "_law_asked" s_law_asked ["_law_jar_here", "_law_rows_here"]) (h_law_take : Has P TheW.w K mg base 1 "_law_take" ["_law_jar_here", "_law_many"] (spP K CTake)) (h_law_of : Has P TheW.w K mg base 2 "_law_of" ["_law_jar_here", "_law_some"] (spP K m_law_of)) : Has P TheW.w K mg base 3 "_law_asked" ["_law_jar_here", "_law_rows_here"] (spP K m_law_asked) :=
  has_Q (k := 2) Dd sc_law_asked 2 rfl b_law_asked (by repeat (first | exact trivial | exact TC.cl | refine And.intro ?_ ?_)) (fun f cdv B out t H E gu hr => (pss_cons (ps_asg (pe_tupP (pa_cons pe_dnewD (pa_cons (pe_lc (own := [("_law_row", 6)]) rfl sc_law_asked.nd (r_seq (K := K) rfl (pv 1)) (blkOk_by (own := [("_law_row", 6)]) (N := N_law_asked) (sc := defScope s_law_asked) (by decide +kernel)) (fun _ _ _ _ _ => (pg_name (i := 6) sc_law_asked.nd rfl (Or.inl rfl))) (fun _ _ _ _ _ => pts_nil) (fun _ _ _ _ _ => (pe_ix (r_ix (K := K) rfl) (pv 6) pe_int (fun _ _ => rfl)))) pa_nil))) (k_tgt (K := K) (n := 2) rfl rfl (pgs_cons (pg_name (i := 3) sc_law_asked.nd rfl (Or.inr rfl)) (pgs_cons (pg_name (i := 4) sc_law_asked.nd rfl (Or.inl rfl)) pgs_nil))))
      (pss_cons (ps_for PassesOwn.never rfl (pi_range1 (by rfl) T.n_range (pa_cons (pe_op (r_add (K := K) rfl) pe_int (pe_has h_law_take gu (hr.mono (by decide)) (by rfl) (pa_cons (pv 0) (pa_cons pe_int pa_nil)))) pa_nil)) (pg_name (i := 2) sc_law_asked.nd rfl (Or.inl rfl)) (pss_cons (ps_set (i := 5) sc_law_asked.nd rfl (Or.inl rfl) (pe_lst (pa_cons (pe_tupP (pa_cons pe_str (pa_cons pe_str pa_nil))) (pa_cons (pe_tupP (pa_cons pe_str (pa_cons pe_str pa_nil))) (pa_cons (pe_tupP (pa_cons pe_str (pa_cons pe_str pa_nil))) (pa_cons (pe_tupP (pa_cons pe_str (pa_cons pe_str pa_nil))) (pa_cons (pe_tupP (pa_cons pe_str (pa_cons (pe_has h_law_of gu (hr.mono (by decide)) (by rfl) (pa_cons (pv 0) (pa_cons (pv 4) pa_nil))) pa_nil))) pa_nil)))))))
      (pss_cons (ps_set (i := 7) sc_law_asked.nd rfl (Or.inl rfl) (pe_has h_law_of gu (hr.mono (by decide)) (by rfl) (pa_cons (pv 0) (pa_cons (pv 5) pa_nil))))
      (pss_one (ps_dputD (K := K) rfl rfl hr.units (pv 3) (pv 7) (pe_has h_law_of gu (hr.mono (by decide)) (by rfl) (pa_cons (pv 0) (pa_cons (pe_lst (pa_cons pe_int (pa_cons pe_int (pa_cons (pe_un (r_neg (K := K)) pe_int) (pa_cons pe_int (pa_cons (pe_un (r_neg (K := K)) pe_int) (pa_cons (pe_op (r_pow (K := K)) pe_int pe_int) pa_nil))))))) pa_nil))) (by rfl))))))
      (pss_one (ps_ret (pe_callTy (r_tuple (K := K) rfl) (by rfl) T.n_tuple (by decide +kernel) (pa_cons (pe_callB (r_sorted (K := K) rfl rfl hr.units sysb) (by rfl) T.n_sorted (by decide +kernel) (pa_cons (pe_locks (pe_lc (own := [("_law_word", 7)]) rfl sc_law_asked.nd (pi_keysD (pv 3)) (blkOk_by (own := [("_law_word", 7)]) (N := N_law_asked) (sc := defScope s_law_asked) (by decide +kernel)) (fun _ _ _ _ _ => (pg_name (i := 7) sc_law_asked.nd rfl (Or.inl rfl))) (fun _ _ _ _ _ => pts_nil) (fun _ _ _ _ _ => (pe_op (r_add (K := K) rfl) (pv 7) (pe_tupP (pa_cons (pe_dgetD (K := K) rfl rfl hr.units (pv 3) (pv 7) (fun _ _ => rfl)) pa_nil)))))) pa_nil)) pa_nil))))))) (by unfold b_law_asked b_law_asked_0 b_law_asked_1 b_law_asked_2 b_law_asked_1_0 b_law_asked_1_1 b_law_asked_1_2; (simp only [List.map_cons, List.map_nil, te_xVar, te_xInt, te_xStr, te_xBl, te_xTy, te_xNon, te_aNil, te_aCons, te_xTup, te_xLst, te_xOp2, te_xUn, te_xFn, te_xCall, te_tB_, te_tTest_, te_tYes_, te_tNot_, te_tAnd_, te_tOr_, te_xAnd, te_xOr, te_xNot, te_xIf, te_xChain, te_poNone, te_poSome, te_gName_, te_gNil_, te_gCons_, te_gTup_, te_xLc, te_sNext, te_sSeq, te_sDrop, te_sRet, te_sRetN, te_sIf, te_sAsg, te_sBreak, te_sCont, te_sFor, te_sWhile, te_jSeq, te_jRange1, te_jRange2, te_xSl, te_xRevT, te_jZip, te_xPeek, te_tPeek, te_sNever, te_sFz, te_sOwn, te_fLst, te_fLc, te_fListT, te_sSetF, te_sAppend, te_sExtend, te_sPar, te_sAugI, te_xLc2, te_xFld, te_xMeth, te_xMake, te_sFld_, te_xDGet, te_xDIn, te_xDGet2, te_xDc, te_xValsKeys, te_xLenSet, te_xSortSet, te_jZip3, te_sParL, te_sPar3, te_jEnum1, te_jEnum2, te_qCons, te_qTup, te_qLst, te_qOp2, te_qUn, te_qFn, te_qCall, te_qDraw, te_qB, te_qTest, te_qNotT, te_qAndT, te_qOrT, te_qAnd, te_qOr, te_qNot, te_qIf, te_qChain, te_qPart, te_qSeqI, te_qRange1, te_qRange2, te_qLc, te_qfLc, te_qSeq, te_qDrop, te_qRet, te_qIfS, te_qAsg, te_qFor, te_qWhile, te_qFz, te_qSetF, te_qAppend, te_qExtend, te_qPar, te_qE, te_qA, te_qT, te_qI, te_qF, te_qP, te_qS, te_mxNil, te_mxD, te_mxO, te_mpNil, te_mpD, te_mpO, te_gNames0, te_gNames1, te_sParM2, te_sParM3, te_sParMN, te_qParM2, te_qParM3, te_qParMN, te_fDNew, te_fDict, te_qfDict, te_qfLst, te_sDPut_, te_fRep, te_sIxPut, te_jZipM, te_xOrT, te_xAndT, te_qPar3, te_xDGetT, te_fDNewT, te_sDPutT, te_qDPutT, te_xLcK, to_poOpt, te_xCallG, te_xDNew, te_xDispV, te_xDispI
] <;> rfl))
abbrev s_law_rows : Stmt := top 15
abbrev N_law_rows : List Str := ["_law_jar_here", "_law_most", "_law_names", "_law_size", "_law_found", "_law_at", "_law_name", "_law_held", "_law_kind", "_law_later", "_law_turn"]
theorem sc_law_rows : FnScope N_law_rows ["_law_jar_here", "_law_most"] (defScope s_law_rows) := ⟨rfl, rfl, rfl, by decide +kernel, rfl, by decide +kernel, by decide +kernel⟩
def b_law_rows_2_1_0 : QS := (qIfS (qTest (qOp2 mEq (qDraw CTake 0 (qA (aCons (xInt 2) aNil))) (qE (xInt 0)))) (qAppend 7 (qTup (qCons (qE (xVar 8)) (qCons (qOp2 mAdd (qE (xInt 1)) (qDraw CTake 0 (qCons (qDraw m_law_of 0 (qA (aCons (xLst (aCons (xInt 1) (aCons (xInt 2) (aCons (xInt 5) aNil)))) aNil))) (qA aNil)))) (qA aNil))))) (qS sNext))
def b_law_rows_2_5 : QS := (qS (sAppend 4 (xPeek (xTup (aCons (xVar 6) (aCons (xFn mTuple (aCons (xVar 7) aNil)) (aCons (xFn mTuple (aCons (xFn mSorted (aCons (xVar 9) aNil)) aNil)) aNil)))))))
def b_law_rows_2_4 : QS := (qSeq (qIfS (qAndT (qT (tTest_ (xOp2 mEq (xOp2 mAdd (xVar 5) (xInt 1)) (xVar 3)))) (qTest (qOp2 mGt (qDraw CTake 0 (qA (aCons (xInt 6) aNil))) (qE (xInt 0))))) (qS (sSetF 9 fDNew)) (qS sNext)) b_law_rows_2_5)
def b_law_rows_2_3 : QS := (qSeq (qIfS (qAndT (qT (tTest_ (xOp2 mLt (xOp2 mAdd (xVar 5) (xInt 1)) (xVar 3)))) (qTest (qOp2 mGt (qDraw CTake 0 (qA (aCons (xInt 4) aNil))) (qE (xInt 0))))) (qS (sDPut_ 9 (xOp2 mIx (xVar 2) (xOp2 mAdd (xVar 5) (xInt 1))) (xBl true))) (qS sNext)) b_law_rows_2_4)
def b_law_rows_2_2 : QS := (qSeq (qSetF 9 (qfDict (qCons (qLc (qRange1 (qCons (qOp2 mAdd (qE (xInt 1)) (qDraw CTake 0 (qA (aCons (xInt 2) aNil)))) (qA aNil))) (gName_ 10) (qT tYes_) (qTup (qCons (qDraw m_law_of 0 (qA (aCons (xVar 2) aNil))) (qA (aCons (xBl true) aNil)))) [10] (id rfl)) (qA aNil)))) b_law_rows_2_3)
def b_law_rows_2_1 : QS := (qSeq (qFor (qI (jSeq (xTup (aCons (xStr "x") (aCons (xStr "y") (aCons (xStr "z") aNil)))))) (gName_ 8) b_law_rows_2_1_0) b_law_rows_2_2)
def b_law_rows_2_0 : QS := (qSeq (qS (sOwn 7)) b_law_rows_2_1)
def b_law_rows_3 : QS := (qS (sFz [4] (sRet (xFn mTuple (aCons (xVar 4) aNil)))))
def b_law_rows_2 : QS := (qSeq (qFor (qI (jEnum1 (aCons (xVar 2) aNil))) (gTup_ 2 (gCons_ (gName_ 5) (gCons_ (gName_ 6) gNil_))) b_law_rows_2_0) b_law_rows_3)
def b_law_rows_1 : QS := (qSeq (qS (sAsg (xSl mSl (xStr "dbaecgf") poNone (poSome (xVar 3))) (gName_ 2))) b_law_rows_2)
def b_law_rows_0 : QS := (qSeq (qParM2 [4] 3 4 [.d (qOp2 mAdd (qE (xInt 2)) (qDraw CTake 0 (qA (aCons (xOp2 mSub (xVar 1) (xInt 1)) aNil)))), .o (qF (fLst aNil))]) b_law_rows_1)
def b_law_rows : QS := b_law_rows_0
def m_law_rows : List D → Nat → (D → Nat → Prop) → Prop := fnQ N_law_rows 2 b_law_rows
theorem ok_law_rows (T : Txt mg) (TC : TxtC K) (sysb : SysB base) (Dd : DefIn K mg "_law_rows" s_law_rows ["_law_jar_here", "_law_most"]) (h_law_take : Has P TheW.w K mg base 1 "_law_take" ["_law_jar_here", "_law_many"] (spP K CTake)) (h_law_of : Has P TheW.w K mg base 2 "_law_of" ["_law_jar_here", "_law_some"] (spP K m_law_of)) : Has P TheW.w K mg base 3 "_law_rows" ["_law_jar_here", "_law_most"] (spP K m_law_rows) :=
  has_Q (k := 2) Dd sc_law_rows 2 rfl b_law_rows (by repeat (first | exact trivial | exact TC.cl | refine And.intro ?_ ?_)) (fun f cdv B out t H E gu hr => (pss_cons (ps_par (i := 3) (j := 4) (by rfl) sc_law_rows.nd rfl rfl (by decide) rfl rfl (pa_cons (pe_op (r_add (K := K) rfl) pe_int (pe_has h_law_take gu (hr.mono (by decide)) (by rfl) (pa_cons (pv 0) (pa_cons (pe_op (r_sub (K := K)) (pv 1) pe_int) pa_nil)))) (pa_cons (pe_lst pa_nil) pa_nil)) (by rfl))
      (pss_cons (ps_set (i := 2) sc_law_rows.nd rfl (Or.inr rfl) (pe_slice (r_sl (K := K) rfl) pe_str po_none (po_some (pv 3))))
      (pss_cons (ps_for PassesOwn.never rfl (r_enum1 (K := K) rfl (by rfl) T.n_enumerate (pa_cons (pv 2) pa_nil)) (k_tgt (K := K) (n := 2) rfl rfl (pgs_cons (pg_name (i := 5) sc_law_rows.nd rfl (Or.inl rfl)) (pgs_cons (pg_name (i := 6) sc_law_rows.nd rfl (Or.inl rfl)) pgs_nil))) (pss_cons (ps_set (i := 7) sc_law_rows.nd rfl (Or.inl rfl) (pe_lst pa_nil))
      (pss_cons (ps_for PassesOwn.never rfl (r_seq (K := K) rfl (pe_tupP (pa_cons pe_str (pa_cons pe_str (pa_cons pe_str pa_nil))))) (pg_name (i := 8) sc_law_rows.nd rfl (Or.inl rfl)) (pss_one (ps_if (pt_cmpR (r_eq (K := K) rfl hr.units) (pe_has h_law_take gu (hr.mono (by decide)) (by rfl) (pa_cons (pv 0) (pa_cons pe_int pa_nil))) pe_int (nomark _)) (pss_one (ps_expr (k_app (K := K) rfl (pv 7) (pe_tupP (pa_cons (pv 8) (pa_cons (pe_op (r_add (K := K) rfl) pe_int (pe_has h_law_take gu (hr.mono (by decide)) (by rfl) (pa_cons (pv 0) (pa_cons (pe_has h_law_of gu (hr.mono (by decide)) (by rfl) (pa_cons (pv 0) (pa_cons (pe_lst (pa_cons pe_int (pa_cons pe_int (pa_cons pe_int pa_nil)))) pa_nil))) pa_nil)))) pa_nil))) (pe_bm PySem.F.plainAttrs_list PySem.F.slot_list_append PySem.F.type_list_append mt_append (pv 7) (pa_cons (pe_tupP (pa_cons (pv 8) (pa_cons (pe_op (r_add (K := K) rfl) pe_int (pe_has h_law_take gu (hr.mono (by decide)) (by rfl) (pa_cons (pv 0) (pa_cons (pe_has h_law_of gu (hr.mono (by decide)) (by rfl) (pa_cons (pv 0) (pa_cons (pe_lst (pa_cons pe_int (pa_cons pe_int (pa_cons pe_int pa_nil)))) pa_nil))) pa_nil)))) pa_nil))) pa_nil))))) pss_nil)))
      (pss_cons (ps_set (i := 9) sc_law_rows.nd rfl (Or.inl rfl) (pe_callTy (r_dict (K := K) rfl rfl) (by rfl) T.n_dict (by decide +kernel) (pa_cons (pe_lc (own := [("_law_turn", 10)]) rfl sc_law_rows.nd (pi_range1 (by rfl) T.n_range (pa_cons (pe_op (r_add (K := K) rfl) pe_int (pe_has h_law_take gu (hr.mono (by decide)) (by rfl) (pa_cons (pv 0) (pa_cons pe_int pa_nil)))) pa_nil)) (blkOk_by (own := [("_law_turn", 10)]) (N := N_law_rows) (sc := defScope s_law_rows) (by decide +kernel)) (fun _ _ _ _ _ => (pg_name (i := 10) sc_law_rows.nd rfl (Or.inl rfl))) (fun _ _ _ _ _ => pts_nil) (fun _ _ _ _ _ => (pe_tupP (pa_cons (pe_has h_law_of gu (hr.mono (by decide)) (by rfl) (pa_cons (pv 0) (pa_cons (pv 2) pa_nil))) (pa_cons pe_bl pa_nil))))) pa_nil)))
      (pss_cons (ps_if (PW.pt (pw_and (pt_cmpR (r_lt (K := K)) (pe_op (r_add (K := K) rfl) (pv 5) pe_int) (pv 3) (nomark _)) (pw_and1 (pt_cmpR (r_gt (K := K)) (pe_has h_law_take gu (hr.mono (by decide)) (by rfl) (pa_cons (pv 0) (pa_cons pe_int pa_nil))) pe_int (nomark _))))) (pss_one (ps_dput (hu_of hr) (pv 9) (pe_ix (r_ix (K := K) rfl) (pv 2) (pe_op (r_add (K := K) rfl) (pv 5) pe_int) (fun _ _ => rfl)) pe_bl (by rfl))) pss_nil)
      (pss_cons (ps_if (PW.pt (pw_and (pt_cmpR (r_eq (K := K) rfl hr.units) (pe_op (r_add (K := K) rfl) (pv 5) pe_int) (pv 3) (nomark _)) (pw_and1 (pt_cmpR (r_gt (K := K)) (pe_has h_law_take gu (hr.mono (by decide)) (by rfl) (pa_cons (pv 0) (pa_cons pe_int pa_nil))) pe_int (nomark _))))) (pss_one (ps_set (i := 9) sc_law_rows.nd rfl (Or.inl rfl) pe_dnewK)) pss_nil)
      (pss_one (ps_expr (k_app (K := K) rfl (pv 4) (pe_tupP (pa_cons (pv 6) (pa_cons (pe_callTy (r_tuple (K := K) rfl) (by rfl) T.n_tuple (by decide +kernel) (pa_cons (pv 7) pa_nil)) (pa_cons (pe_callTy (r_tuple (K := K) rfl) (by rfl) T.n_tuple (by decide +kernel) (pa_cons (pe_callB (r_sorted (K := K) rfl rfl hr.units sysb) (by rfl) T.n_sorted (by decide +kernel) (pa_cons (pv 9) pa_nil)) pa_nil)) pa_nil)))) (pe_bm PySem.F.plainAttrs_list PySem.F.slot_list_append PySem.F.type_list_append mt_append (pv 4) (pa_cons (pe_tupP (pa_cons (pv 6) (pa_cons (pe_callTy (r_tuple (K := K) rfl) (by rfl) T.n_tuple (by decide +kernel) (pa_cons (pv 7) pa_nil)) (pa_cons (pe_callTy (r_tuple (K := K) rfl) (by rfl) T.n_tuple (by decide +kernel) (pa_cons (pe_callB (r_sorted (K := K) rfl rfl hr.units sysb) (by rfl) T.n_sorted (by decide +kernel) (pa_cons (pv 9) pa_nil)) pa_nil)) pa_nil)))) pa_nil)))))))))))
      (pss_one (ps_ret (pe_callTy (r_tuple (K := K) rfl) (by rfl) T.n_tuple (by decide +kernel) (pa_cons (pv 4) pa_nil)))))))) (by unfold b_law_rows b_law_rows_0 b_law_rows_1 b_law_rows_2 b_law_rows_3 b_law_rows_2_0 b_law_rows_2_1 b_law_rows_2_2 b_law_rows_2_3 b_law_rows_2_4 b_law_rows_2_5 b_law_rows_2_1_0; (simp only [List.map_cons, List.map_nil, te_xVar, te_xInt, te_xStr, te_xBl, te_xTy, te_xNon, te_aNil, te_aCons, te_xTup, te_xLst, te_xOp2, te_xUn, te_xFn, te_xCall, te_tB_, te_tTest_, te_tYes_, te_tNot_, te_tAnd_, te_tOr_, te_xAnd, te_xOr, te_xNot, te_xIf, te_xChain, te_poNone, te_poSome, te_gName_, te_gNil_, te_gCons_, te_gTup_, te_xLc, te_sNext, te_sSeq, te_sDrop, te_sRet, te_sRetN, te_sIf, te_sAsg, te_sBreak, te_sCont, te_sFor, te_sWhile, te_jSeq, te_jRange1, te_jRange2, te_xSl, te_xRevT, te_jZip, te_xPeek, te_tPeek, te_sNever, te_sFz, te_sOwn, te_fLst, te_fLc, te_fListT, te_sSetF, te_sAppend, te_sExtend, te_sPar, te_sAugI, te_xLc2, te_xFld, te_xMeth, te_xMake, te_sFld_, te_xDGet, te_xDIn, te_xDGet2, te_xDc, te_xValsKeys, te_xLenSet, te_xSortSet, te_jZip3, te_sParL, te_sPar3, te_jEnum1, te_jEnum2, te_qCons, te_qTup, te_qLst, te_qOp2, te_qUn, te_qFn, te_qCall, te_qDraw, te_qB, te_qTest, te_qNotT, te_qAndT, te_qOrT, te_qAnd, te_qOr, te_qNot, te_qIf, te_qChain, te_qPart, te_qSeqI, te_qRange1, te_qRange2, te_qLc, te_qfLc, te_qSeq, te_qDrop, te_qRet, te_qIfS, te_qAsg, te_qFor, te_qWhile, te_qFz, te_qSetF, te_qAppend, te_qExtend, te_qPar, te_qE, te_qA, te_qT, te_qI, te_qF, te_qP, te_qS, te_mxNil, te_mxD, te_mxO, te_mpNil, te_mpD, te_mpO, te_gNames0, te_gNames1, te_sParM2, te_sParM3, te_sParMN, te_qParM2, te_qParM3, te_qParMN, te_fDNew, te_fDict, te_qfDict, te_qfLst, te_sDPut_, te_fRep, te_sIxPut, te_jZipM, te_xOrT, te_xAndT, te_qPar3, te_xDGetT, te_fDNewT, te_sDPutT, te_qDPutT, te_xLcK, to_poOpt, te_xCallG, te_xDNew, te_xDispV, te_xDispI
] <;> rfl))
abbrev s_law_odd : Stmt := top 17
abbrev N_law_odd : List Str := ["_law_jar_here", "_law_thing", "_law_turn"]
theorem sc_law_odd : FnScope N_law_odd ["_law_jar_here"] (defScope s_law_odd) := ⟨rfl, rfl, rfl, by decide +kernel, rfl, by decide +kernel, by decide +kernel⟩
def b_law_odd_1_0 : QS := (qAsg (qDraw m_law_of 0 (qA (aCons (xLst (aCons (xTup (aCons (xVar 1) aNil)) (aCons (xLst (aCons (xVar 1) aNil)) (aCons (xDispV "a" 1) (aCons (xTup (aCons (xVar 1) (aCons (xInt 0) aNil))) aNil))))) aNil))) (gName_ 1))
def b_law_odd_2 : QS := (qS (sRet (xVar 1)))
def b_law_odd_1 : QS := (qSeq (qFor (qRange1 (qCons (qDraw m_law_of 0 (qA (aCons (xLst (aCons (xInt 0) (aCons (xInt 0) (aCons (xInt 0) (aCons (xInt 1) (aCons (xInt 2) (aCons (xInt 20) aNil))))))) aNil))) (qA aNil))) (gName_ 2) b_law_odd_1_0) b_law_odd_2)
def b_law_odd_0 : QS := (qSeq (qAsg (qDraw m_law_of 0 (qA (aCons (xLst (aCons xNon (aCons (xBl true) (aCons (xBl false) (aCons (xInt 0) (aCons (xUn mNeg (xInt 1)) (aCons (xInt 7) (aCons (xOp2 mPow (xInt 10) (xInt 17)) (aCons (xStr "") (aCons (xStr "a") (aCons (xStr "Ab") (aCons (xStr "kind") (aCons (xTup aNil) (aCons (xLst aNil) (aCons xDNew (aCons (xTup (aCons (xStr "a") aNil)) (aCons (xLst (aCons (xStr "a") aNil)) aNil))))))))))))))))) aNil))) (gName_ 1)) b_law_odd_1)
def b_law_odd : QS := b_law_odd_0
def m_law_odd : List D → Nat → (D → Nat → Prop) → Prop := fnQ N_law_odd 1 b_law_odd
theorem ok_law_odd (T : Txt mg) (TC : TxtC K) (sysb : SysB base) (Dd : DefIn K mg "_law_odd" s_law_odd ["_law_jar_here"]) (h_law_of : Has P TheW.w K mg base 2 "_law_of" ["_law_jar_here", "_law_some"] (spP K m_law_of)) : Has P TheW.w K mg base 3 "_law_odd" ["_law_jar_here"] (spP K m_law_odd) :=
  has_Q (k := 2) Dd sc_law_odd 1 rfl b_law_odd (by repeat (first | exact trivial | exact TC.cl | refine And.intro ?_ ?_)) (fun f cdv B out t H E gu hr => (pss_cons (ps_set (i := 1) sc_law_odd.nd rfl (Or.inl rfl) (pe_has h_law_of gu (hr.mono (by decide)) (by rfl) (pa_cons (pv 0) (pa_cons (pe_lst (pa_cons pe_non (pa_cons pe_bl (pa_cons pe_bl (pa_cons pe_int (pa_cons (pe_un (r_neg (K := K)) pe_int) (pa_cons pe_int (pa_cons (pe_op (r_pow (K := K)) pe_int pe_int) (pa_cons pe_str (pa_cons pe_str (pa_cons pe_str (pa_cons pe_str (pa_cons (pe_tupP pa_nil) (pa_cons (pe_lst pa_nil) (pa_cons pe_dnewK (pa_cons (pe_tupP (pa_cons pe_str pa_nil)) (pa_cons (pe_lst (pa_cons pe_str pa_nil)) pa_nil))))))))))))))))) pa_nil))))
      (pss_cons (ps_for PassesOwn.never rfl (pi_range1 (by rfl) T.n_range (pa_cons (pe_has h_law_of gu (hr.mono (by decide)) (by rfl) (pa_cons (pv 0) (pa_cons (pe_lst (pa_cons pe_int (pa_cons pe_int (pa_cons pe_int (pa_cons pe_int (pa_cons pe_int (pa_cons pe_int pa_nil))))))) pa_nil))) pa_nil)) (pg_name (i := 2) sc_law_odd.nd rfl (Or.inl rfl)) (pss_one (ps_set (i := 1) sc_law_odd.nd rfl (Or.inl rfl) (pe_has h_law_of gu (hr.mono (by decide)) (by rfl) (pa_cons (pv 0) (pa_cons (pe_lst (pa_cons (pe_tupP (pa_cons (pv 1) pa_nil)) (pa_cons (pe_lst (pa_cons (pv 1) pa_nil)) (pa_cons (pe_disp (pps_cons pe_str (pv 1) pps_nil) (by rfl) (by rfl) (fun z => by cases z) (by decide)) (pa_cons (pe_tupP (pa_cons (pv 1) (pa_cons pe_int pa_nil))) pa_nil))))) pa_nil))))))
      (pss_one (ps_ret (pv 1)))))) (by unfold b_law_odd b_law_odd_0 b_law_odd_1 b_law_odd_2 b_law_odd_1_0; (simp only [List.map_cons, List.map_nil, te_xVar, te_xInt, te_xStr, te_xBl, te_xTy, te_xNon, te_aNil, te_aCons, te_xTup, te_xLst, te_xOp2, te_xUn, te_xFn, te_xCall, te_tB_, te_tTest_, te_tYes_, te_tNot_, te_tAnd_, te_tOr_, te_xAnd, te_xOr, te_xNot, te_xIf, te_xChain, te_poNone, te_poSome, te_gName_, te_gNil_, te_gCons_, te_gTup_, te_xLc, te_sNext, te_sSeq, te_sDrop, te_sRet, te_sRetN, te_sIf, te_sAsg, te_sBreak, te_sCont, te_sFor, te_sWhile, te_jSeq, te_jRange1, te_jRange2, te_xSl, te_xRevT, te_jZip, te_xPeek, te_tPeek, te_sNever, te_sFz, te_sOwn, te_fLst, te_fLc, te_fListT, te_sSetF, te_sAppend, te_sExtend, te_sPar, te_sAugI, te_xLc2, te_xFld, te_xMeth, te_xMake, te_sFld_, te_xDGet, te_xDIn, te_xDGet2, te_xDc, te_xValsKeys, te_xLenSet, te_xSortSet, te_jZip3, te_sParL, te_sPar3, te_jEnum1, te_jEnum2, te_qCons, te_qTup, te_qLst, te_qOp2, te_qUn, te_qFn, te_qCall, te_qDraw, te_qB, te_qTest, te_qNotT, te_qAndT, te_qOrT, te_qAnd, te_qOr, te_qNot, te_qIf, te_qChain, te_qPart, te_qSeqI, te_qRange1, te_qRange2, te_qLc, te_qfLc, te_qSeq, te_qDrop, te_qRet, te_qIfS, te_qAsg, te_qFor, te_qWhile, te_qFz, te_qSetF, te_qAppend, te_qExtend, te_qPar, te_qE, te_qA, te_qT, te_qI, te_qF, te_qP, te_qS, te_mxNil, te_mxD, te_mxO, te_mpNil, te_mpD, te_mpO, te_gNames0, te_gNames1, te_sParM2, te_sParM3, te_sParMN, te_qParM2, te_qParM3, te_qParMN, te_fDNew, te_fDict, te_qfDict, te_qfLst, te_sDPut_, te_fRep, te_sIxPut, te_jZipM, te_xOrT, te_xAndT, te_qPar3, te_xDGetT, te_fDNewT, te_sDPutT, te_qDPutT, te_xLcK, to_poOpt, te_xCallG, te_xDNew, te_xDispV, te_xDispI
] <;> rfl))
abbrev s_law_bent : Stmt := top 21
abbrev N_law_bent : List Str := ["_law_jar_here", "_law_asked_here", "_law_part", "_law_some", "_law_at", "_law_odd_here", "_law_item", "_law_spot"]
theorem sc_law_bent : FnScope N_law_bent ["_law_jar_here", "_law_asked_here"] (defScope s_law_bent) := ⟨rfl, rfl, rfl, by decide +kernel, rfl, by decide +kernel, by decide +kernel⟩
def b_law_bent_6 : QS := (qRet (qDraw m_law_of 0 (qA (aCons (xOp2 mAdd (xVar 3) (xLst (aCons (xVar 1) (aCons (xOp2 mAdd (xOp2 mAdd (xSl mSl (xVar 1) poNone (poSome (xVar 4))) (xTup (aCons (xOp2 mAdd (xVar 6) (xTup (aCons (xInt 1) aNil))) aNil))) (xSl mSl (xVar 1) (poSome (xOp2 mAdd (xVar 4) (xInt 1))) poNone)) aNil)))) aNil))))
def b_law_bent_5 : QS := (qSeq (qS (sAsg (xOp2 mAdd (xVar 3) (xLst (aCons (xOp2 mAdd (xOp2 mAdd (xSl mSl (xVar 1) poNone (poSome (xVar 4))) (xTup (aCons (xFn mList (aCons (xVar 6) aNil)) aNil))) (xSl mSl (xVar 1) (poSome (xOp2 mAdd (xVar 4) (xInt 1))) poNone)) (aCons (xOp2 mAdd (xOp2 mAdd (xSl mSl (xVar 1) poNone (poSome (xVar 4))) (xTup (aCons (xSl mSl (xVar 6) poNone (poSome (xInt 2))) aNil))) (xSl mSl (xVar 1) (poSome (xOp2 mAdd (xVar 4) (xInt 1))) poNone)) aNil)))) (gName_ 3))) b_law_bent_6)
def b_law_bent_4 : QS := (qSeq (qS (sAsg (xOp2 mAdd (xVar 3) (xLst (aCons (xRevT (xVar 1)) (aCons (xFn mList (aCons (xVar 1) aNil)) (aCons (xOp2 mAdd (xVar 1) (xSl mSl (xVar 1) (poSome (xUn mNeg (xInt 1))) poNone)) (aCons (xOp2 mAdd (xSl mSl (xVar 1) poNone (poSome (xVar 4))) (xSl mSl (xVar 1) (poSome (xOp2 mAdd (xVar 4) (xInt 1))) poNone)) (aCons (xOp2 mAdd (xVar 1) (xTup (aCons (xVar 5) aNil))) (aCons (xVar 5) aNil)))))))) (gName_ 3))) b_law_bent_5)
def b_law_bent_3 : QS := (qSeq (qS (sAsg (xOp2 mRep (xLst (aCons (xOp2 mAdd (xOp2 mAdd (xSl mSl (xVar 1) poNone (poSome (xVar 4))) (xTup (aCons (xOp2 mAdd (xOp2 mAdd (xSl mSl (xVar 6) poNone (poSome (xVar 7))) (xTup (aCons (xVar 2) aNil))) (xSl mSl (xVar 6) (poSome (xOp2 mAdd (xVar 7) (xInt 1))) poNone)) aNil))) (xSl mSl (xVar 1) (poSome (xOp2 mAdd (xVar 4) (xInt 1))) poNone)) aNil)) (xInt 4)) (gName_ 3))) b_law_bent_4)
def b_law_bent_2 : QS := (qSeq (qAsg (qDraw m_law_of 0 (qA (aCons (xLst (aCons (xInt 0) (aCons (xBl true) (aCons (xUn mNeg (xInt 5)) (aCons (xOp2 mPow (xInt 10) (xInt 17)) (aCons (xStr "kind") (aCons (xStr "step") (aCons (xStr "kinds") (aCons (xStr "abcdefghi") (aCons (xStr "x") (aCons (xStr "X") (aCons (xStr "") (aCons xNon (aCons (xVar 5) aNil)))))))))))))) aNil))) (gName_ 2)) b_law_bent_3)
def b_law_bent_1 : QS := (qSeq (qPar 6 7 (qCons (qE (xOp2 mIx (xVar 1) (xVar 4))) (qCons (qDraw CTake 0 (qA (aCons (xInt 3) aNil))) (qA aNil)))) b_law_bent_2)
def b_law_bent_0 : QS := (qSeq (qPar 4 5 (qCons (qDraw CTake 0 (qA (aCons (xFn mLen (aCons (xVar 1) aNil)) aNil))) (qCons (qDraw m_law_odd 0 (qA aNil)) (qA aNil)))) b_law_bent_1)
def b_law_bent : QS := b_law_bent_0
def m_law_bent : List D → Nat → (D → Nat → Prop) → Prop := fnQ N_law_bent 2 b_law_bent
theorem ok_law_bent (T : Txt mg) (TC : TxtC K) (sysb : SysB base) (Dd : DefIn K mg "_law_bent" s_law_bent ["_law_jar_here", "_law_asked_here"]) (h_law_odd : Has P TheW.w K mg base 3 "_law_odd" ["_law_jar_here"] (spP K m_law_odd)) (h_law_take : Has P TheW.w K mg base 1 "_law_take" ["_law_jar_here", "_law_many"] (spP K CTake)) (h_law_of : Has P TheW.w K mg base 2 "_law_of" ["_law_jar_here", "_law_some"] (spP K m_law_of)) : Has P TheW.w K mg base 4 "_law_bent" ["_law_jar_here", "_law_asked_here"] (spP K m_law_bent) :=
  has_Q (k := 3) Dd sc_law_bent 2 rfl b_law_bent (by repeat (first | exact trivial | exact TC.cl | refine And.intro ?_ ?_)) (fun f cdv B out t H E gu hr => (pss_cons (ps_par (i := 4) (j := 5) (by rfl) sc_law_bent.nd rfl rfl (by decide) rfl rfl (pa_cons (pe_has h_law_take gu (hr.mono (by decide)) (by rfl) (pa_cons (pv 0) (pa_cons (pe_callB (r_len (K := K) rfl) (by rfl) T.n_len PySem.boot_len (pa_cons (pv 1) pa_nil)) pa_nil))) (pa_cons (pe_has h_law_odd gu (hr.mono (by decide)) (by rfl) (pa_cons (pv 0) pa_nil)) pa_nil)) (by rfl))
      (pss_cons (ps_par (i := 6) (j := 7) (by rfl) sc_law_bent.nd rfl rfl (by decide) rfl rfl (pa_cons (pe_ix (r_ix (K := K) rfl) (pv 1) (pv 4) (fun _ _ => rfl)) (pa_cons (pe_has h_law_take gu (hr.mono (by decide)) (by rfl) (pa_cons (pv 0) (pa_cons pe_int pa_nil))) pa_nil)) (by rfl))
      (pss_cons (ps_set (i := 2) sc_law_bent.nd rfl (Or.inl rfl) (pe_has h_law_of gu (hr.mono (by decide)) (by rfl) (pa_cons (pv 0) (pa_cons (pe_lst (pa_cons pe_int (pa_cons pe_bl (pa_cons (pe_un (r_neg (K := K)) pe_int) (pa_cons (pe_op (r_pow (K := K)) pe_int pe_int) (pa_cons pe_str (pa_cons pe_str (pa_cons pe_str (pa_cons pe_str (pa_cons pe_str (pa_cons pe_str (pa_cons pe_str (pa_cons pe_non (pa_cons (pv 5) pa_nil)))))))))))))) pa_nil))))
      (pss_cons (ps_set (i := 3) sc_law_bent.nd rfl (Or.inl rfl) (pe_op (op_rep) (pe_lst (pa_cons (pe_op (r_add (K := K) rfl) (pe_op (r_add (K := K) rfl) (pe_slice (r_sl (K := K) rfl) (pv 1) po_none (po_some (pv 4))) (pe_tupP (pa_cons (pe_op (r_add (K := K) rfl) (pe_op (r_add (K := K) rfl) (pe_slice (r_sl (K := K) rfl) (pv 6) po_none (po_some (pv 7))) (pe_tupP (pa_cons (pv 2) pa_nil))) (pe_slice (r_sl (K := K) rfl) (pv 6) (po_some (pe_op (r_add (K := K) rfl) (pv 7) pe_int)) po_none)) pa_nil))) (pe_slice (r_sl (K := K) rfl) (pv 1) (po_some (pe_op (r_add (K := K) rfl) (pv 4) pe_int)) po_none)) pa_nil)) pe_int))
      (pss_cons (ps_set (i := 3) sc_law_bent.nd rfl (Or.inl rfl) (pe_op (r_add (K := K) rfl) (pv 3) (pe_lst (pa_cons (k_revT (K := K) rfl (pv 1)) (pa_cons (pe_callTy (r_list (K := K) rfl) (by rfl) T.n_list (by decide +kernel) (pa_cons (pv 1) pa_nil)) (pa_cons (pe_op (r_add (K := K) rfl) (pv 1) (pe_slice (r_sl (K := K) rfl) (pv 1) (po_some (pe_un (r_neg (K := K)) pe_int)) po_none)) (pa_cons (pe_op (r_add (K := K) rfl) (pe_slice (r_sl (K := K) rfl) (pv 1) po_none (po_some (pv 4))) (pe_slice (r_sl (K := K) rfl) (pv 1) (po_some (pe_op (r_add (K := K) rfl) (pv 4) pe_int)) po_none)) (pa_cons (pe_op (r_add (K := K) rfl) (pv 1) (pe_tupP (pa_cons (pv 5) pa_nil))) (pa_cons (pv 5) pa_nil)))))))))
      (pss_cons (ps_set (i := 3) sc_law_bent.nd rfl (Or.inl rfl) (pe_op (r_add (K := K) rfl) (pv 3) (pe_lst (pa_cons (pe_op (r_add (K := K) rfl) (pe_op (r_add (K := K) rfl) (pe_slice (r_sl (K := K) rfl) (pv 1) po_none (po_some (pv 4))) (pe_tupP (pa_cons (pe_callTy (r_list (K := K) rfl) (by rfl) T.n_list (by decide +kernel) (pa_cons (pv 6) pa_nil)) pa_nil))) (pe_slice (r_sl (K := K) rfl) (pv 1) (po_some (pe_op (r_add (K := K) rfl) (pv 4) pe_int)) po_none)) (pa_cons (pe_op (r_add (K := K) rfl) (pe_op (r_add (K := K) rfl) (pe_slice (r_sl (K := K) rfl) (pv 1) po_none (po_some (pv 4))) (pe_tupP (pa_cons (pe_slice (r_sl (K := K) rfl) (pv 6) po_none (po_some pe_int)) pa_nil))) (pe_slice (r_sl (K := K) rfl) (pv 1) (po_some (pe_op (r_add (K := K) rfl) (pv 4) pe_int)) po_none)) pa_nil)))))
      (pss_one (ps_ret (pe_has h_law_of gu (hr.mono (by decide)) (by rfl) (pa_cons (pv 0) (pa_cons (pe_op (r_add (K := K) rfl) (pv 3) (pe_lst (pa_cons (pv 1) (pa_cons (pe_op (r_add (K := K) rfl) (pe_op (r_add (K := K) rfl) (pe_slice (r_sl (K := K) rfl) (pv 1) po_none (po_some (pv 4))) (pe_tupP (pa_cons (pe_op (r_add (K := K) rfl) (pv 6) (pe_tupP (pa_cons pe_int pa_nil))) pa_nil))) (pe_slice (r_sl (K := K) rfl) (pv 1) (po_some (pe_op (r_add (K := K) rfl) (pv 4) pe_int)) po_none)) pa_nil)))) pa_nil)))))))))))) (by unfold b_law_bent b_law_bent_0 b_law_bent_1 b_law_bent_2 b_law_bent_3 b_law_bent_4 b_law_bent_5 b_law_bent_6; (simp only [List.map_cons, List.map_nil, te_xVar, te_xInt, te_xStr, te_xBl, te_xTy, te_xNon, te_aNil, te_aCons, te_xTup, te_xLst, te_xOp2, te_xUn, te_xFn, te_xCall, te_tB_, te_tTest_, te_tYes_, te_tNot_, te_tAnd_, te_tOr_, te_xAnd, te_xOr, te_xNot, te_xIf, te_xChain, te_poNone, te_poSome, te_gName_, te_gNil_, te_gCons_, te_gTup_, te_xLc, te_sNext, te_sSeq, te_sDrop, te_sRet, te_sRetN, te_sIf, te_sAsg, te_sBreak, te_sCont, te_sFor, te_sWhile, te_jSeq, te_jRange1, te_jRange2, te_xSl, te_xRevT, te_jZip, te_xPeek, te_tPeek, te_sNever, te_sFz, te_sOwn, te_fLst, te_fLc, te_fListT, te_sSetF, te_sAppend, te_sExtend, te_sPar, te_sAugI, te_xLc2, te_xFld, te_xMeth, te_xMake, te_sFld_, te_xDGet, te_xDIn, te_xDGet2, te_xDc, te_xValsKeys, te_xLenSet, te_xSortSet, te_jZip3, te_sParL, te_sPar3, te_jEnum1, te_jEnum2, te_qCons, te_qTup, te_qLst, te_qOp2, te_qUn, te_qFn, te_qCall, te_qDraw, te_qB, te_qTest, te_qNotT, te_qAndT, te_qOrT, te_qAnd, te_qOr, te_qNot, te_qIf, te_qChain, te_qPart, te_qSeqI, te_qRange1, te_qRange2, te_qLc, te_qfLc, te_qSeq, te_qDrop, te_qRet, te_qIfS, te_qAsg, te_qFor, te_qWhile, te_qFz, te_qSetF, te_qAppend, te_qExtend, te_qPar, te_qE, te_qA, te_qT, te_qI, te_qF, te_qP, te_qS, te_mxNil, te_mxD, te_mxO, te_mpNil, te_mpD, te_mpO, te_gNames0, te_gNames1, te_sParM2, te_sParM3, te_sParMN, te_qParM2, te_qParM3, te_qParMN, te_fDNew, te_fDict, te_qfDict, te_qfLst, te_sDPut_, te_fRep, te_sIxPut, te_jZipM, te_xOrT, te_xAndT, te_qPar3, te_xDGetT, te_fDNewT, te_sDPutT, te_qDPutT, te_xLcK, to_poOpt, te_xCallG, te_xDNew, te_xDispV, te_xDispI
] <;> rfl))
abbrev s_law_right : Stmt := top 22
abbrev N_law_right : List Str := ["_law_jar_here", "_law_asked_here", "_law_turn", "_law_some", "_law_kept", "_law_thing"]
theorem sc_law_right : FnScope N_law_right ["_law_jar_here"] (defScope s_law_right) := ⟨rfl, rfl, rfl, by decide +kernel, rfl, by decide +kernel, by decide +kernel⟩
def b_law_right_1_3 : QS := (qS (sIf (tOr_ (tTest_ (xOp2 mNe (xFn mRepr (aCons (xCall m_is_question (aCons (xVar 5) aNil)) aNil)) (xFn mRepr (aCons (xCall m_law_is_one (aCons (xVar 5) aNil)) aNil)))) (tTest_ (xOp2 mNe (xFn mRepr (aCons (xVar 5) aNil)) (xVar 4)))) (sRet (xBl false)) sNext))
def b_law_right_1_2 : QS := (qSeq (qS (sAsg (xFn mRepr (aCons (xVar 5) aNil)) (gName_ 4))) b_law_right_1_3)
def b_law_right_1_1 : QS := (qSeq (qAsg (qIf (qAndT (qTest (qOp2 mEq (qDraw CTake 0 (qA (aCons (xInt 5) aNil))) (qE (xInt 0)))) (qT (tAnd_ (tB_ (xCall m_law_is_one (aCons (xVar 5) aNil))) (tTest_ (xOp2 mNe (xVar 5) (xTup aNil)))))) (qDraw m_law_bent 0 (qA (aCons (xVar 5) aNil))) (qE (xVar 5))) (gName_ 5)) b_law_right_1_2)
def b_law_right_1_0 : QS := (qSeq (qAsg (qDraw m_law_bent 0 (qA (aCons (xVar 1) aNil))) (gName_ 5)) b_law_right_1_1)
def b_law_right_4 : QS := (qS (sFz [3] (sRet (xOp2 mEq (xLc (jSeq (xVar 3)) (gName_ 5) tYes_ (xCall (kwF [0] 1 m_is_question) (aCons (xVar 5) aNil)) [5] (id rfl)) (xLst (aCons (xBl true) (aCons (xBl false) (aCons (xBl false) (aCons (xBl true) (aCons (xBl false) (aCons (xBl false) aNil)))))))))))
def b_law_right_3 : QS := (qSeq (qS (sAppend 3 (xTup (aCons (xTup (aCons (xStr "step") (aCons (xStr "x") (aCons (xInt 1) aNil)))) (aCons (xTup (aCons (xStr "kind") (aCons (xStr "x") (aCons (xInt 1) aNil)))) aNil))))) b_law_right_4)
def b_law_right_2 : QS := (qSeq (qS (sSetF 3 (fLst (aCons (xTup aNil) (aCons (xLst aNil) (aCons xNon (aCons (xTup (aCons (xTup (aCons (xStr "kind") (aCons (xStr "x") (aCons (xInt 1) aNil)))) aNil)) (aCons (xTup (aCons (xTup (aCons (xStr "kind") (aCons (xStr "x") (aCons (xInt 1) aNil)))) (aCons (xTup (aCons (xStr "kind") (aCons (xStr "x") (aCons (xInt 2) aNil)))) aNil))) aNil)))))))) b_law_right_3)
def b_law_right_1 : QS := (qSeq (qFor (qI (jRange1 (aCons (xInt 12) aNil))) (gName_ 2) b_law_right_1_0) b_law_right_2)
def b_law_right_0 : QS := (qSeq (qAsg (qDraw m_law_asked 0 (qCons (qDraw m_law_rows 0 (qA (aCons (xInt 5) aNil))) (qA aNil))) (gName_ 1)) b_law_right_1)
def b_law_right : QS := b_law_right_0
def m_law_right : List D → Nat → (D → Nat → Prop) → Prop := fnQ N_law_right 1 b_law_right
theorem ok_law_right (T : Txt mg) (TC : TxtC K) (sysb : SysB base) (Dd : DefIn K mg "_law_right" s_law_right ["_law_jar_here"]) (h_law_asked : Has P TheW.w K mg base 3 "_law_asked" ["_law_jar_here", "_law_rows_here"] (spP K m_law_asked)) (h_law_rows : Has P TheW.w K mg base 3 "_law_rows" ["_law_jar_here", "_law_most"] (spP K m_law_rows)) (h_law_bent : Has P TheW.w K mg base 4 "_law_bent" ["_law_jar_here", "_law_asked_here"] (spP K m_law_bent)) (h_law_is_one : Has P TheW.w K mg base 3 "_law_is_one" ["_law_thing"] (spD K (CF m_law_is_one))) (h_law_take : Has P TheW.w K mg base 1 "_law_take" ["_law_jar_here", "_law_many"] (spP K CTake)) (h_is_question : Has P TheW.w K mg base 3 "is_question" ["value"] (spD K (CF m_is_question))) (kw_is_question : KwIn K mg "is_question" ["value"] ["value"] [0]) : Has P TheW.w K mg base 5 "_law_right" ["_law_jar_here"] (spP K m_law_right) :=
  has_Q (k := 4) Dd sc_law_right 1 rfl b_law_right (by repeat (first | exact trivial | exact TC.cl | refine And.intro ?_ ?_)) (fun f cdv B out t H E gu hr => (pss_cons (ps_set (i := 1) sc_law_right.nd rfl (Or.inl rfl) (pe_has h_law_asked gu (hr.mono (by decide)) (by rfl) (pa_cons (pv 0) (pa_cons (pe_has h_law_rows gu (hr.mono (by decide)) (by rfl) (pa_cons (pv 0) (pa_cons pe_int pa_nil))) pa_nil))))
      (pss_cons (ps_for PassesOwn.never rfl (pi_range1 (by rfl) T.n_range (pa_cons pe_int pa_nil)) (pg_name (i := 2) sc_law_right.nd rfl (Or.inl rfl)) (pss_cons (ps_set (i := 5) sc_law_right.nd rfl (Or.inl rfl) (pe_has h_law_bent gu (hr.mono (by decide)) (by rfl) (pa_cons (pv 0) (pa_cons (pv 1) pa_nil))))
      (pss_cons (ps_set (i := 5) sc_law_right.nd rfl (Or.inl rfl) (pe_ifExp (PW.pt (pw_and (pt_cmpR (r_eq (K := K) rfl hr.units) (pe_has h_law_take gu (hr.mono (by decide)) (by rfl) (pa_cons (pv 0) (pa_cons pe_int pa_nil))) pe_int (nomark _)) (pw_and (pt_val (pe_has h_law_is_one gu (hr.mono (by decide)) (by rfl) (pa_cons (pv 5) pa_nil))) (pw_and1 (pt_cmpR (r_ne (K := K) rfl hr.units) (pv 5) (pe_tupP pa_nil) (nomark _)))))) (pe_has h_law_bent gu (hr.mono (by decide)) (by rfl) (pa_cons (pv 0) (pa_cons (pv 5) pa_nil))) (pv 5)))
      (pss_cons (ps_set (i := 4) sc_law_right.nd rfl (Or.inl rfl) (pe_callB (r_repr (K := K) rfl gu (units_of hr) sysb) (by rfl) T.n_repr (by decide +kernel) (pa_cons (pv 5) pa_nil)))
      (pss_one (ps_if (PW.pt (pw_or (pt_cmpR (r_ne (K := K) rfl hr.units) (pe_callB (r_repr (K := K) rfl gu (units_of hr) sysb) (by rfl) T.n_repr (by decide +kernel) (pa_cons (pe_has h_is_question gu (hr.mono (by decide)) (by rfl) (pa_cons (pv 5) pa_nil)) pa_nil)) (pe_callB (r_repr (K := K) rfl gu (units_of hr) sysb) (by rfl) T.n_repr (by decide +kernel) (pa_cons (pe_has h_law_is_one gu (hr.mono (by decide)) (by rfl) (pa_cons (pv 5) pa_nil)) pa_nil)) (nomark _)) (pw_or1 (pt_cmpR (r_ne (K := K) rfl hr.units) (pe_callB (r_repr (K := K) rfl gu (units_of hr) sysb) (by rfl) T.n_repr (by decide +kernel) (pa_cons (pv 5) pa_nil)) (pv 4) (nomark _))))) (pss_one (ps_ret pe_bl)) pss_nil))))))
      (pss_cons (ps_set (i := 3) sc_law_right.nd rfl (Or.inl rfl) (pe_lst (pa_cons (pe_tupP pa_nil) (pa_cons (pe_lst pa_nil) (pa_cons pe_non (pa_cons (pe_tupP (pa_cons (pe_tupP (pa_cons pe_str (pa_cons pe_str (pa_cons pe_int pa_nil)))) pa_nil)) (pa_cons (pe_tupP (pa_cons (pe_tupP (pa_cons pe_str (pa_cons pe_str (pa_cons pe_int pa_nil)))) (pa_cons (pe_tupP (pa_cons pe_str (pa_cons pe_str (pa_cons pe_int pa_nil)))) pa_nil))) pa_nil)))))))
      (pss_cons (ps_expr (k_app (K := K) rfl (pv 3) (pe_tupP (pa_cons (pe_tupP (pa_cons pe_str (pa_cons pe_str (pa_cons pe_int pa_nil)))) (pa_cons (pe_tupP (pa_cons pe_str (pa_cons pe_str (pa_cons pe_int pa_nil)))) pa_nil))) (pe_bm PySem.F.plainAttrs_list PySem.F.slot_list_append PySem.F.type_list_append mt_append (pv 3) (pa_cons (pe_tupP (pa_cons (pe_tupP (pa_cons pe_str (pa_cons pe_str (pa_cons pe_int pa_nil)))) (pa_cons (pe_tupP (pa_cons pe_str (pa_cons pe_str (pa_cons pe_int pa_nil)))) pa_nil))) pa_nil))))
      (pss_one (ps_ret (pe_cmpR (r_eq (K := K) rfl hr.units) (pe_lc (own := [("_law_thing", 5)]) rfl sc_law_right.nd (r_seq (K := K) rfl (pv 3)) (blkOk_by (own := [("_law_thing", 5)]) (N := N_law_right) (sc := defScope s_law_right) (by decide +kernel)) (fun _ _ _ _ _ => (pg_name (i := 5) sc_law_right.nd rfl (Or.inl rfl))) (fun _ _ _ _ _ => pts_nil) (fun _ _ _ _ _ => (pe_kw h_is_question kw_is_question gu (hr.mono (by decide)) (by rfl) (pk_cons (pv 5) pk_nil)))) (pe_lst (pa_cons pe_bl (pa_cons pe_bl (pa_cons pe_bl (pa_cons pe_bl (pa_cons pe_bl (pa_cons pe_bl pa_nil))))))) (nomark _))))))))) (by unfold b_law_right b_law_right_0 b_law_right_1 b_law_right_2 b_law_right_3 b_law_right_4 b_law_right_1_0 b_law_right_1_1 b_law_right_1_2 b_law_right_1_3; (simp only [List.map_cons, List.map_nil, te_xVar, te_xInt, te_xStr, te_xBl, te_xTy, te_xNon, te_aNil, te_aCons, te_xTup, te_xLst, te_xOp2, te_xUn, te_xFn, te_xCall, te_tB_, te_tTest_, te_tYes_, te_tNot_, te_tAnd_, te_tOr_, te_xAnd, te_xOr, te_xNot, te_xIf, te_xChain, te_poNone, te_poSome, te_gName_, te_gNil_, te_gCons_, te_gTup_, te_xLc, te_sNext, te_sSeq, te_sDrop, te_sRet, te_sRetN, te_sIf, te_sAsg, te_sBreak, te_sCont, te_sFor, te_sWhile, te_jSeq, te_jRange1, te_jRange2, te_xSl, te_xRevT, te_jZip, te_xPeek, te_tPeek, te_sNever, te_sFz, te_sOwn, te_fLst, te_fLc, te_fListT, te_sSetF, te_sAppend, te_sExtend, te_sPar, te_sAugI, te_xLc2, te_xFld, te_xMeth, te_xMake, te_sFld_, te_xDGet, te_xDIn, te_xDGet2, te_xDc, te_xValsKeys, te_xLenSet, te_xSortSet, te_jZip3, te_sParL, te_sPar3, te_jEnum1, te_jEnum2, te_qCons, te_qTup, te_qLst, te_qOp2, te_qUn, te_qFn, te_qCall, te_qDraw, te_qB, te_qTest, te_qNotT, te_qAndT, te_qOrT, te_qAnd, te_qOr, te_qNot, te_qIf, te_qChain, te_qPart, te_qSeqI, te_qRange1, te_qRange2, te_qLc, te_qfLc, te_qSeq, te_qDrop, te_qRet, te_qIfS, te_qAsg, te_qFor, te_qWhile, te_qFz, te_qSetF, te_qAppend, te_qExtend, te_qPar, te_qE, te_qA, te_qT, te_qI, te_qF, te_qP, te_qS, te_mxNil, te_mxD, te_mxO, te_mpNil, te_mpD, te_mpO, te_gNames0, te_gNames1, te_sParM2, te_sParM3, te_sParMN, te_qParM2, te_qParM3, te_qParMN, te_fDNew, te_fDict, te_qfDict, te_qfLst, te_sDPut_, te_fRep, te_sIxPut, te_jZipM, te_xOrT, te_xAndT, te_qPar3, te_xDGetT, te_fDNewT, te_sDPutT, te_qDPutT, te_xLcK, to_poOpt, te_xCallG, te_xDNew, te_xDispV, te_xDispI
] <;> rfl))
end
end FR
namespace FR
open PySem PySem.Spec PyProof.Rows L2
variable [TheW]
local macro_rules | `(tactic| walk_at "ev") => `(tactic| simp only [ev_xDNew, ev_xDispV, ev_xDispI, wp_qPar3, ev_xDGetT, ev_fDNewT, ev_sDPutT, wp_qDPutT, ev_xLcK, ev_xCallG, ev_poOpt, sem_ltX, sem_ltXS, ev_xVar, ev_xInt, ev_xStr, ev_xBl, ev_xTy, ev_xNon, ev_aNil, ev_aCons, ev_xTup, ev_xLst, ev_xOp2, ev_xUn, ev_xFn, ev_xCall, ev_tB_, ev_tTest_, ev_tYes_, ev_tNot_, ev_tAnd_, ev_tOr_, ev_xAnd, ev_xOr, ev_xNot, ev_xIf, ev_xChain, ev_poNone, ev_poSome, ev_gName_, ev_gNil_, ev_gCons_, ev_gTup_, ev_xLc, ev_sNext, ev_sSeq, ev_sDrop, ev_sRet, ev_sRetN, ev_sIf, ev_sAsg, ev_sBreak, ev_sCont, ev_sFor, ev_sWhile, ev_jSeq, ev_jRange1, ev_jRange2, ev_xSl, ev_xRevT, ev_jZip, ev_xPeek, ev_tPeek, ev_sNever, ev_sFz, ev_sOwn, ev_fLst, ev_fLc, ev_fListT, ev_sSetF, ev_sAppend, ev_sExtend, ev_sPar, ev_sAugI, ev_xLc2, ev_xFld, ev_xMeth, ev_xMake, ev_sFld_, ev_xDGet, ev_xDIn, ev_xDGet2, ev_xDc, ev_xValsKeys, ev_xLenSet, ev_xSortSet, ev_jZip3, ev_sParL, ev_sPar3, wp_qE, wp_qA, wp_qT, wp_qI, wp_qF, wp_qP, wp_qS, wp_qCons, wp_qTup, wp_qLst, wp_qOp2, wp_qUn, wp_qFn, wp_qCall, wp_qDraw, wp_qB, wp_qTest, wp_qNotT, wp_qAndT, wp_qOrT, wp_qAnd, wp_qOr, wp_qNot, wp_qIf, wp_qChain, wp_qPart, wp_qSeqI, wp_qRange1, wp_qRange2, wp_qLc, wp_qfLc, wp_qSeq, wp_qDrop, wp_qRet, wp_qIfS, wp_qAsg, wp_qFor, wp_qWhile, wp_qFz, wp_qSetF, wp_qAppend, wp_qExtend, wp_qPar, ev_jEnum1, ev_jEnum2, wp_qParM2, wp_qParM3, wp_qParMN, ev_sParM2, ev_sParM3, ev_sParMN, ev_fDNew, ev_fDict, wp_qfDict, wp_qfLst, ev_sDPut_, ev_fRep, ev_sIxPut, ev_jZipM, ev_xOrT, ev_xAndT, tru_lst, tru_tup, tru_non, tru_bl, List.getElem?_cons_zero, List.getElem?_cons_succ, List.set_cons_zero, List.set_cons_succ, List.map_cons, List.map_nil, List.length_cons, List.length_nil, List.length_map, Option.bind_some, Option.bind_none, atEnv_d, ownAt_o, blOf_b, inOf_i, lstOf_l, hide_d, hide_any, hide_own, hide_pot, frz_d, frz_any, frz_own, frz_pot, wipeE, when_t, when_f, end_rt, end_nx, Bool.not_true, Bool.not_false, lc1, Nat.zero_add, Nat.reduceAdd, Int.cast_ofNat_Int, beq_self_eq_true, Int.reduceBEq, Int.reduceLE, Int.reduceLT, decide_true, decide_false, Int.reduceNeg, Nat.reduceBEq, Bool.and_true, Bool.true_and, Bool.and_false, Bool.false_and, insOf_s, dctOf_d, keyOf_s, keyOf_i, unown, freeAt, ownAt_a, ownAt_dd, ownAt_p, blt_dec, Nat.reduceLT, Option.isNone_none, Option.isNone_some, fzAt, mpEv, parEnv, unowns, ex_some, ex_int, ex_two, ex_lst, at_nx, at_rt, isNon_i, isNon_s, isNon_n, true_and, and_true, nbeq, at0, at1, at2, sz0, sz1, sz2, sz3, sz4, sz5, sz6, sz7, sz8, bools_map, wholes_map, texts_map, all_id, any_id, sem_lt, sem_le, sem_gt, sem_ge, sem_ltS, sem_leS, sem_add, sem_addT, sem_addL, sem_sub, sem_mul, sem_mod, sem_div, sem_neg, sem_is, sem_isnt, sem_eqI, sem_neI, sem_eqS, sem_neS, sem_eqB, sem_lenT, sem_lenL, sem_lenS, sem_tupL, sem_tupT, sem_lstT, sem_lstL, sem_intI, sem_intB, sem_all, sem_any, sem_sum, sem_min, sem_max, sem_ixT, sem_ixL, sem_ixS, sem_repr, sem_slT, sem_slL, items_T, items_L, items_S, isi_int_int, isi_int_bool, isi_int_str, isi_int_tuple, isi_int_list, isi_int_dict, isi_bl_int, isi_bl_bool, isi_bl_str, isi_bl_tuple, isi_bl_list, isi_bl_dict, isi_str_int, isi_str_bool, isi_str_str, isi_str_tuple, isi_str_list, isi_str_dict, isi_tup_int, isi_tup_bool, isi_tup_str, isi_tup_tuple, isi_tup_list, isi_tup_dict, isi_lst_int, isi_lst_bool, isi_lst_str, isi_lst_tuple, isi_lst_list, isi_lst_dict, isi_non_int, isi_non_bool, isi_non_str, isi_non_tuple, isi_non_list, isi_non_dict, isi_dct_int, isi_dct_bool, isi_dct_str, isi_dct_tuple, isi_dct_list, isi_dct_dict])
local macro_rules | `(tactic| walk_at "evh") => `(tactic| simp only [*, ev_xDNew, ev_xDispV, ev_xDispI, wp_qPar3, ev_xDGetT, ev_fDNewT, ev_sDPutT, wp_qDPutT, ev_xLcK, ev_xCallG, ev_poOpt, sem_ltX, sem_ltXS, ev_xVar, ev_xInt, ev_xStr, ev_xBl, ev_xTy, ev_xNon, ev_aNil, ev_aCons, ev_xTup, ev_xLst, ev_xOp2, ev_xUn, ev_xFn, ev_xCall, ev_tB_, ev_tTest_, ev_tYes_, ev_tNot_, ev_tAnd_, ev_tOr_, ev_xAnd, ev_xOr, ev_xNot, ev_xIf, ev_xChain, ev_poNone, ev_poSome, ev_gName_, ev_gNil_, ev_gCons_, ev_gTup_, ev_xLc, ev_sNext, ev_sSeq, ev_sDrop, ev_sRet, ev_sRetN, ev_sIf, ev_sAsg, ev_sBreak, ev_sCont, ev_sFor, ev_sWhile, ev_jSeq, ev_jRange1, ev_jRange2, ev_xSl, ev_xRevT, ev_jZip, ev_xPeek, ev_tPeek, ev_sNever, ev_sFz, ev_sOwn, ev_fLst, ev_fLc, ev_fListT, ev_sSetF, ev_sAppend, ev_sExtend, ev_sPar, ev_sAugI, ev_xLc2, ev_xFld, ev_xMeth, ev_xMake, ev_sFld_, ev_xDGet, ev_xDIn, ev_xDGet2, ev_xDc, ev_xValsKeys, ev_xLenSet, ev_xSortSet, ev_jZip3, ev_sParL, ev_sPar3, wp_qE, wp_qA, wp_qT, wp_qI, wp_qF, wp_qP, wp_qS, wp_qCons, wp_qTup, wp_qLst, wp_qOp2, wp_qUn, wp_qFn, wp_qCall, wp_qDraw, wp_qB, wp_qTest, wp_qNotT, wp_qAndT, wp_qOrT, wp_qAnd, wp_qOr, wp_qNot, wp_qIf, wp_qChain, wp_qPart, wp_qSeqI, wp_qRange1, wp_qRange2, wp_qLc, wp_qfLc, wp_qSeq, wp_qDrop, wp_qRet, wp_qIfS, wp_qAsg, wp_qFor, wp_qWhile, wp_qFz, wp_qSetF, wp_qAppend, wp_qExtend, wp_qPar, ev_jEnum1, ev_jEnum2, wp_qParM2, wp_qParM3, wp_qParMN, ev_sParM2, ev_sParM3, ev_sParMN, ev_fDNew, ev_fDict, wp_qfDict, wp_qfLst, ev_sDPut_, ev_fRep, ev_sIxPut, ev_jZipM, ev_xOrT, ev_xAndT, tru_lst, tru_tup, tru_non, tru_bl, List.getElem?_cons_zero, List.getElem?_cons_succ, List.set_cons_zero, List.set_cons_succ, List.map_cons, List.map_nil, List.length_cons, List.length_nil, List.length_map, Option.bind_some, Option.bind_none, atEnv_d, ownAt_o, blOf_b, inOf_i, lstOf_l, hide_d, hide_any, hide_own, hide_pot, frz_d, frz_any, frz_own, frz_pot, wipeE, when_t, when_f, end_rt, end_nx, Bool.not_true, Bool.not_false, lc1, Nat.zero_add, Nat.reduceAdd, Int.cast_ofNat_Int, beq_self_eq_true, Int.reduceBEq, Int.reduceLE, Int.reduceLT, decide_true, decide_false, Int.reduceNeg, Nat.reduceBEq, Bool.and_true, Bool.true_and, Bool.and_false, Bool.false_and, insOf_s, dctOf_d, keyOf_s, keyOf_i, unown, freeAt, ownAt_a, ownAt_dd, ownAt_p, blt_dec, Nat.reduceLT, Option.isNone_none, Option.isNone_some, fzAt, mpEv, parEnv, unowns, ex_some, ex_int, ex_two, ex_lst, at_nx, at_rt, isNon_i, isNon_s, isNon_n, true_and, and_true, nbeq, at0, at1, at2, sz0, sz1, sz2, sz3, sz4, sz5, sz6, sz7, sz8, bools_map, wholes_map, texts_map, all_id, any_id, sem_lt, sem_le, sem_gt, sem_ge, sem_ltS, sem_leS, sem_add, sem_addT, sem_addL, sem_sub, sem_mul, sem_mod, sem_div, sem_neg, sem_is, sem_isnt, sem_eqI, sem_neI, sem_eqS, sem_neS, sem_eqB, sem_lenT, sem_lenL, sem_lenS, sem_tupL, sem_tupT, sem_lstT, sem_lstL, sem_intI, sem_intB, sem_all, sem_any, sem_sum, sem_min, sem_max, sem_ixT, sem_ixL, sem_ixS, sem_repr, sem_slT, sem_slL, items_T, items_L, items_S, isi_int_int, isi_int_bool, isi_int_str, isi_int_tuple, isi_int_list, isi_int_dict, isi_bl_int, isi_bl_bool, isi_bl_str, isi_bl_tuple, isi_bl_list, isi_bl_dict, isi_str_int, isi_str_bool, isi_str_str, isi_str_tuple, isi_str_list, isi_str_dict, isi_tup_int, isi_tup_bool, isi_tup_str, isi_tup_tuple, isi_tup_list, isi_tup_dict, isi_lst_int, isi_lst_bool, isi_lst_str, isi_lst_tuple, isi_lst_list, isi_lst_dict, isi_non_int, isi_non_bool, isi_non_str, isi_non_tuple, isi_non_list, isi_non_dict, isi_dct_int, isi_dct_bool, isi_dct_str, isi_dct_tuple, isi_dct_list, isi_dct_dict])

/-! ## draws -/
theorem take_ok {m n : Nat} {Φ : D → Nat → Prop} (h0 : 0 < m) (h1 : m ≤ 1000000) (hn : n < potMost) (h : ∀ r : Nat, r < m → Φ (.int r) (n + 1)) : CTake [.int m] n Φ := by
  refine ⟨m, rfl, by omega, by omega, hn, fun r r0 r1 => ?_⟩
  have := h r.toNat (by omega)
  rw [Int.toNat_of_nonneg r0] at this
  exact this
theorem of_ok {xs : List D} {n : Nat} {Φ : D → Nat → Prop} (h0 : xs ≠ []) (h1 : xs.length ≤ 1000000) (hn : n < potMost) (h : ∀ x ∈ xs, Φ x (n + 1)) : m_law_of [.lst xs] n Φ := by
  refine ⟨rfl, ?_⟩
  show b_law_of.wp n [.pot, .d (.lst xs)] _
  unfold b_law_of
  walk_at "ev"
  refine take_ok (List.length_pos_iff.mpr h0) h1 hn fun r hr => ?_
  refine ⟨xs[r], by rw [sem_ixL, at_nat _ _ hr], h _ (List.getElem_mem hr)⟩
theorem ofT_ok {xs : List D} {n : Nat} {Φ : D → Nat → Prop} (h0 : xs ≠ []) (h1 : xs.length ≤ 1000000) (hn : n < potMost) (h : ∀ x ∈ xs, Φ x (n + 1)) : m_law_of [.tup xs] n Φ := by
  refine ⟨rfl, ?_⟩
  show b_law_of.wp n [.pot, .d (.tup xs)] _
  unfold b_law_of
  walk_at "ev"
  refine take_ok (List.length_pos_iff.mpr h0) h1 hn fun r hr => ?_
  refine ⟨xs[r], by rw [sem_ixT, at_nat _ _ hr], h _ (List.getElem_mem hr)⟩
def sgn (z : Str) : List Str := z.cps.toList.map fun c => ⟨#[c]⟩
theorem items_sgn (z : Str) : itemsOf (.str z) = some ((sgn z).map .str) := by
  rw [items_S, signs_def]
  unfold sgn
  rw [List.map_map]
  rfl
theorem sgn_len (z : Str) : (sgn z).length = z.length := by
  unfold sgn
  rw [List.length_map, Array.length_toList]
  rfl
theorem ix_sgn {z : Str} {i : Nat} (h : i < (sgn z).length) (hz : z.length ≤ 1000) : mIx.f (.str z) (.int (i : Nat)) = some (.str (sgn z)[i]) := by
  have hi : i < z.cps.toList.length := by unfold sgn at h; rw [List.length_map] at h; exact h
  rw [sem_ixS, szOk_of (by omega), when_t, at_nat _ _ hi]
  have e : (sgn z)[i] = (⟨#[z.cps.toList[i]]⟩ : Str) := List.getElem_map _
  rw [e]
  rfl
theorem ofS_ok {z : Str} {n : Nat} {Φ : D → Nat → Prop} (h0 : 0 < z.length) (h1 : z.length ≤ 1000) (hn : n < potMost) (h : ∀ x ∈ sgn z, Φ (.str x) (n + 1)) : m_law_of [.str z] n Φ := by
  refine ⟨rfl, ?_⟩
  have hz : szOk z.length = true := szOk_of (by omega)
  show b_law_of.wp n [.pot, .d (.str z)] _
  unfold b_law_of
  walk_at "ev"
  rw [hz, when_t]
  refine ⟨_, rfl, take_ok h0 (by omega) hn fun r hr => ?_⟩
  have hr' : r < (sgn z).length := by rw [sgn_len]; exact hr
  exact ⟨_, ix_sgn hr' h1, h _ (List.getElem_mem hr')⟩
/-! ## owned slots -/
theorem unown_at {env : List E} {i : Nat} (h : i < env.length) : ∃ e : E, (∀ x, e ≠ .own x) ∧ unown env i = env.set i e := by
  unfold unown
  have e1 : env[i]? = some env[i] := List.getElem?_eq_getElem h
  rw [e1]
  cases e2 : env[i] with
  | own x => exact ⟨.d x, fun _ => by simp, rfl⟩
  | _ => exact ⟨env[i], fun x => by rw [e2]; simp, by rw [List.set_getElem_self]⟩
theorem free_set {env : List E} {i : Nat} {e : E} (h : i < env.length) (hn : ∀ x, e ≠ .own x) : freeAt (env.set i e) i = true := by
  unfold freeAt
  rw [List.length_set, List.getElem?_set_self h]
  have e1 : Nat.blt i env.length = true := Nat.ble_eq_true_of_le h
  rw [e1]
  cases e with
  | own x => exact absurd rfl (hn x)
  | _ => rfl
theorem own_ev {env : List E} {i : Nat} (h : i < env.length) : (sOwn i).ev env = some (.nx (env.set i (.own (.lst [])))) := by
  obtain ⟨e, e1, e2⟩ := unown_at h
  rw [ev_sOwn, e2, free_set h e1, when_t, List.set_set]
theorem ownD_ev {env : List E} {i : Nat} (h : i < env.length) : (sSetF i fDNew).ev env = some (.nx (env.set i (.own (.dct [])))) := by
  obtain ⟨e, e1, e2⟩ := unown_at h
  rw [ev_sSetF, e2, free_set h e1, when_t, ev_fDNew, Option.bind_some, List.set_set]
theorem setF_ok {i : Nat} {e : QF} {n : Nat} {env : List E} {O : Out} (h : i < env.length) (q : ∀ e', e.wp n (env.set i e') fun d n1 => O.nx (env.set i (.own d)) n1) : (qSetF i e).wp n env O := by
  obtain ⟨e', e1, e2⟩ := unown_at h
  rw [wp_qSetF, e2]
  refine ⟨free_set h e1, ?_⟩
  have := q e'
  simp only [List.set_set]
  exact this
theorem still_map {α : Type} {f : α → D} {xs : List α} (h : ∀ x ∈ xs, still (f x) = true) : stillL (xs.map f) = true := by
  induction xs with
  | nil => rfl
  | cons x xs ih =>
    show (still (f x) && stillL (xs.map f)) = true
    rw [h x (by simp), ih fun y hy => h y (List.mem_cons_of_mem _ hy)]
    rfl
theorem still_row (r : Row) : still r.d = true := by
  unfold Row.d
  show (true && (stillL (r.held.map hapD) && (stillL (r.later.map .str) && true))) = true
  rw [still_map fun x _ => rfl, still_map fun x _ => rfl]
  rfl
theorem sem_sortD (xs : List Str) : mSorted.f [.dct (setK xs)] = some (.lst ((sortS xs).map .str)) := by
  show (txtKeys (setK xs)).bind _ = _
  rw [txt_set]
  rfl
/-! ## a drawn program: its steps -/
def rwE (M : Nat) (z : Str) (s : Nat) (acc : D) (e5 e6 e7 e8 e9 : E) : List E := [.pot, .d (.int M), .d (.str z), .d (.int s), .own acc, e5, e6, e7, e8, e9, .any]
theorem rows5 {M s m i : Nat} {z x : Str} {rs : List Row} {hs : List (Str × Int)} {xs : List Str} {e8 : E} {O : Out} (hl : rs.length < 1000) (q : O.nx (rwE M z s (.lst ((rs ++ [Row.mk x hs (sortS xs)]).map Row.d)) (.d (.int i)) (.d (.str x)) (.own (.lst (hs.map hapD))) e8 (.own (.dct (setK xs)))) m) :
    b_law_rows_2_5.wp m (rwE M z s (.lst (rs.map Row.d)) (.d (.int i)) (.d (.str x)) (.own (.lst (hs.map hapD))) e8 (.own (.dct (setK xs)))) O := by
  have e1 := sem_sortD xs
  have e2 : still (.tup [.str x, .tup (hs.map hapD), .tup ((sortS xs).map .str)]) = true := still_row ⟨x, hs, sortS xs⟩
  have e3 : decide (rs.length < 16777216) = true := decide_eq_true (by omega)
  have e4 : (rs ++ [Row.mk x hs (sortS xs)]).map Row.d = rs.map Row.d ++ [.tup [.str x, .tup (hs.map hapD), .tup ((sortS xs).map .str)]] := by rw [List.map_append]; rfl
  rw [e4] at q
  unfold rwE at *
  unfold b_law_rows_2_5
  clear hl e4
  walk_at "evh"
theorem rows4 {M s m i : Nat} {z x : Str} {rs : List Row} {hs : List (Str × Int)} {xs : List Str} {e8 : E} {O : Out} (hl : rs.length < 1000) (hm : m + 1 ≤ potMost)
    (q : ∀ ys m', ys = xs ∨ ys = [] → m' ≤ m + 1 → O.nx (rwE M z s (.lst ((rs ++ [Row.mk x hs (sortS ys)]).map Row.d)) (.d (.int i)) (.d (.str x)) (.own (.lst (hs.map hapD))) e8 (.own (.dct (setK ys)))) m') :
    b_law_rows_2_4.wp m (rwE M z s (.lst (rs.map Row.d)) (.d (.int i)) (.d (.str x)) (.own (.lst (hs.map hapD))) e8 (.own (.dct (setK xs)))) O := by
  have a := fun m' hm' => rows5 (M := M) (z := z) (s := s) (i := i) (x := x) (hs := hs) (xs := xs) (e8 := e8) (m := m') hl (q xs m' (.inl rfl) hm')
  have b := fun m' hm' => rows5 (M := M) (z := z) (s := s) (i := i) (x := x) (hs := hs) (xs := []) (e8 := e8) (m := m') hl (q [] m' (.inr rfl) hm')
  have e : setK [] = [] := rfl
  rw [e] at b
  unfold rwE at *
  unfold b_law_rows_2_4
  walk_at "ev"
  cases hb : ((i : Int) + 1 == (s : Int)) with
  | false => exact a m (by omega)
  | true =>
    refine take_ok (m := 6) (by decide) (by decide) (by omega) fun r hr => ?_
    walk_at "ev"
    cases hc : decide ((r : Int) > 0) with
    | false => exact a (m + 1) (by omega)
    | true => exact b (m + 1) (by omega)
theorem rows3 {M s m i : Nat} {z x : Str} {rs : List Row} {hs : List (Str × Int)} {xs : List Str} {e8 : E} {O : Out} (hz : (sgn z).length = s) (hs7 : s ≤ 1000) (hx : xs.length ≤ 1000) (hl : rs.length < 1000) (hm : m + 2 ≤ potMost)
    (q : ∀ ys m', (ys = xs ∨ ys = [] ∨ ∃ y ∈ sgn z, ys = addS xs y) → m' ≤ m + 2 → O.nx (rwE M z s (.lst ((rs ++ [Row.mk x hs (sortS ys)]).map Row.d)) (.d (.int i)) (.d (.str x)) (.own (.lst (hs.map hapD))) e8 (.own (.dct (setK ys)))) m') :
    b_law_rows_2_3.wp m (rwE M z s (.lst (rs.map Row.d)) (.d (.int i)) (.d (.str x)) (.own (.lst (hs.map hapD))) e8 (.own (.dct (setK xs)))) O := by
  have a := fun m' (hm' : m' ≤ m + 1) => rows4 (M := M) (z := z) (s := s) (i := i) (x := x) (hs := hs) (xs := xs) (e8 := e8) (m := m') (O := O) hl (by omega) fun ys m2 h h2 => q ys m2 (by rcases h with h | h; exact .inl h; exact .inr (.inl h)) (by omega)
  have b := fun m' (hm' : m' ≤ m + 1) y (hy : y ∈ sgn z) => rows4 (M := M) (z := z) (s := s) (i := i) (x := x) (hs := hs) (xs := addS xs y) (e8 := e8) (m := m') (O := O) hl (by omega) fun ys m2 h h2 => q ys m2 (by rcases h with h | h; exact .inr (.inr ⟨y, hy, h⟩); exact .inr (.inl h)) (by omega)
  unfold rwE at *
  unfold b_law_rows_2_3
  walk_at "ev"
  cases hb : decide ((i : Int) + 1 < (s : Int)) with
  | false => exact a m (by omega)
  | true =>
    refine take_ok (m := 4) (by decide) (by decide) (by omega) fun r hr => ?_
    walk_at "ev"
    cases hc : decide ((r : Int) > 0) with
    | false => exact a (m + 1) (by omega)
    | true =>
      have hi : i + 1 < (sgn z).length := by
        have := of_decide_eq_true hb
        omega
      have e1 := ix_sgn hi (by rw [← sgn_len]; omega)
      rw [sem_ixS] at e1
      have e2 : ((i : Int) + 1) = ((i + 1 : Nat) : Int) := by omega
      have e3 : decide ((setK xs).length < 16777216) = true := decide_eq_true (by unfold setK; rw [List.length_map]; omega)
      have e4 := put_set xs (sgn z)[i + 1]
      have c := b (m + 1) (by omega) _ (List.getElem_mem hi)
      clear a b q hm hx hs7 hz hl hb hc
      walk_at "evh"
theorem three_ok {m : Nat} {Φ : D → Nat → Prop} (hm : m < potMost) (h : ∀ k : Nat, 1 ≤ k → k ≤ 5 → Φ (.int k) (m + 1)) : m_law_of [.lst [.int 1, .int 2, .int 5]] m Φ := by
  refine of_ok (by simp) (by simp) hm fun x hx => ?_
  simp only [List.mem_cons, List.not_mem_nil, or_false] at hx
  rcases hx with rfl | rfl | rfl
  · exact h 1 (by omega) (by omega)
  · exact h 2 (by omega) (by omega)
  · exact h 5 (by omega) (by omega)
def kinds3 : List Str := ["x", "y", "z"]
/-- what a step holds -/
structure Held (k : Nat) (hs : List (Str × Int)) : Prop where
  sub : (hs.map Prod.fst).Sublist (kinds3.take k)
  rng : ∀ p ∈ hs, 1 ≤ p.2 ∧ p.2 ≤ 5
theorem rows21 {M s m i : Nat} {z x : Str} {rs : List Row} {e9 : E} {O : Out} (hm : m + 9 ≤ potMost)
    (q : ∀ hs e8 m', Held 3 hs → m' ≤ m + 9 → b_law_rows_2_2.wp m' (rwE M z s (.lst (rs.map Row.d)) (.d (.int i)) (.d (.str x)) (.own (.lst (hs.map hapD))) e8 e9) O) {e8 : E} :
    b_law_rows_2_1.wp m (rwE M z s (.lst (rs.map Row.d)) (.d (.int i)) (.d (.str x)) (.own (.lst [])) e8 e9) O := by
  have e : rwE M z s (.lst (rs.map Row.d)) (.d (.int i)) (.d (.str x)) (.own (.lst [])) e8 e9 = [.pot, .d (.int M), .d (.str z), .d (.int s), .own (.lst (rs.map Row.d)), .d (.int i), .d (.str x), .own (.lst []), e8, e9, .any] := rfl
  rw [e]
  unfold b_law_rows_2_1
  walk_at "ev"
  refine goForQ_all (fun k env => ∃ hs e8, Held k hs ∧ env = rwE M z s (.lst (rs.map Row.d)) (.d (.int i)) (.d (.str x)) (.own (.lst (hs.map hapD))) e8 e9) 3 (k := 0) (fun k d env m O' hd hr hm hO => ?_) ⟨[], e8, ⟨by simp, by simp⟩, rfl⟩ (by simpa using hm) fun env' m' r hm' => ?_
  · obtain ⟨hs, e8, hh, rfl⟩ := hr
    rw [Nat.zero_add] at hh hO
    have hk : ∃ kd, d = .str kd ∧ kinds3[k]? = some kd := by
      have : ([D.str "x", .str "y", .str "z"] : List D) = kinds3.map .str := rfl
      rw [this, List.getElem?_map] at hd
      cases e : kinds3[k]? with
      | none => rw [e] at hd; cases hd
      | some kd => rw [e] at hd; cases hd; exact ⟨kd, rfl, rfl⟩
    obtain ⟨kd, rfl, hk⟩ := hk
    refine ⟨_, rfl, ?_⟩
    show b_law_rows_2_1_0.wp m [.pot, .d (.int M), .d (.str z), .d (.int s), .own (.lst (rs.map Row.d)), .d (.int i), .d (.str x), .own (.lst (hs.map hapD)), .d (.str kd), e9, .any] O'
    have ht : kinds3.take (k + 1) = kinds3.take k ++ [kd] := by rw [List.take_succ, hk]; rfl
    have hl : (hs.map hapD).length ≤ 3 := by
      have := hh.sub.length_le
      rw [List.length_map] at this ⊢
      have h3 : (kinds3.take k).length ≤ 3 := by rw [List.length_take]; exact Nat.min_le_right _ _
      omega
    unfold b_law_rows_2_1_0
    walk_at "ev"
    refine take_ok (m := 2) (by decide) (by decide) (by omega) fun r hr => ?_
    walk_at "ev"
    cases hb : ((r : Int) == 0) with
    | false => exact hO _ _ ⟨hs, _, ⟨by rw [ht]; exact hh.sub.trans (List.sublist_append_left _ _), hh.rng⟩, rfl⟩ (by omega)
    | true =>
      refine three_ok (by omega) fun w w1 w5 => ?_
      refine take_ok (m := w) (by omega) (by omega) (by omega) fun v hv => ?_
      walk_at "ev"
      refine ⟨decide_eq_true (by rw [List.length_map] at hl; omega), ?_⟩
      refine hO _ _ ⟨hs ++ [(kd, 1 + (v : Int))], .d (.str kd), ⟨?_, ?_⟩, ?_⟩ (by omega)
      · rw [ht, List.map_append]
        exact hh.sub.append (List.Sublist.refl _)
      · intro p hp
        rcases List.mem_append.mp hp with hp | hp
        · exact hh.rng p hp
        · simp at hp; subst hp; simp only; omega
      · rw [List.map_append]
        rfl
  · obtain ⟨hs, e8, hh, rfl⟩ := r
    exact q hs e8 m' hh (by simpa using hm')
theorem rows22 {M s m i : Nat} {z x : Str} {rs : List Row} {hs : List (Str × Int)} {e8 e9 : E} {O : Out} (hz : (sgn z).length = s) (h2 : 2 ≤ s) (hs7 : s ≤ 1000) (hl : rs.length < 1000) (hm : m + 5 ≤ potMost)
    (q : ∀ ys m', Nms (sgn z) 3 ys → m' ≤ m + 5 → O.nx (rwE M z s (.lst ((rs ++ [Row.mk x hs (sortS ys)]).map Row.d)) (.d (.int i)) (.d (.str x)) (.own (.lst (hs.map hapD))) e8 (.own (.dct (setK ys)))) m') :
    b_law_rows_2_2.wp m (rwE M z s (.lst (rs.map Row.d)) (.d (.int i)) (.d (.str x)) (.own (.lst (hs.map hapD))) e8 e9) O := by
  have a := fun xs m' (hn : Nms (sgn z) 2 xs) (hm' : m' ≤ m + 3) => rows3 (M := M) (z := z) (s := s) (i := i) (x := x) (hs := hs) (xs := xs) (e8 := e8) (m := m') (O := O) hz hs7 (Nat.le_trans hn.len (by decide)) hl (by omega) fun ys m2 h h2 => q ys m2 (by
    rcases h with rfl | rfl | ⟨y, hy, rfl⟩
    · exact hn.mono (by decide)
    · exact .nil _ _
    · exact hn.add hy) (by omega)
  have zl : z.length = s := by rw [← sgn_len]; exact hz
  unfold rwE at *
  unfold b_law_rows_2_2
  rw [wp_qSeq]
  refine setF_ok (show 9 < 11 by decide) fun e' => ?_
  walk_at "ev"
  refine take_ok (m := 2) (by decide) (by decide) (by omega) fun r hr => ?_
  refine ⟨_, sem_add _ _, _, rfl, sm62_of (by omega) (by omega), szOk_of (by unfold rangeD; simp; omega), ?_⟩
  have hlen : (rangeD 0 (1 + (r : Int)).toNat).length = 1 + r := by unfold rangeD; simp; omega
  refine goLcQ_all (P := fun d => ∃ y : Str, d = D.tup [.str y, .bl true] ∧ y ∈ sgn z) (c := 1) (fun d _ acc m k hm hk => ⟨_, rfl, ?_⟩) (by rw [hlen]; omega) fun ys m' hl' hP hm' => ?_
  · walk_at "ev"
    exact ofS_ok (by omega) (by omega) (by omega) fun y hy => hk _ _ ⟨y, rfl, hy⟩ (Nat.le_refl _)
  rw [hlen] at hl' hm'
  obtain ⟨xs, rfl, hx⟩ := enc_of hP
  rw [List.length_map] at hl'
  refine ⟨_, _, rfl, pairs_set xs, ?_⟩
  have e1 := merge_set xs []
  have e2 : setK [] = [] := rfl
  rw [e2] at e1
  rw [e1]
  exact a _ _ (((Nms.nil (sgn z) 0).fold hx).mono (by omega)) (by omega)
theorem asc3 {hs : List (Str × Int)} (h : Held 3 hs) : ascB (hs.map Prod.fst) = true := by
  refine asc_of_pw ?_
  have p : kinds3.Pairwise fun a b => ltB a b = true := asc_nodup (by decide +kernel)
  exact p.sublist h.sub
/-- the steps so far -/
structure RowsTo (z : Str) (k : Nat) (rs : List Row) : Prop where
  nms : rs.map Row.nm = (sgn z).take k
  hl : ∀ r ∈ rs, Held 3 r.held
  lt : ∀ r ∈ rs, ∃ ys, Nms (sgn z) 3 ys ∧ r.later = sortS ys
/-- the names of a drawn program -/
structure OkZ (z : Str) : Prop where
  nd : (sgn z).Nodup
  nm : (sgn z).all okName = true
  l2 : 2 ≤ z.length
  l7 : z.length ≤ 7
theorem held_len {k : Nat} {hs : List (Str × Int)} (h : Held k hs) : hs.length ≤ 3 := by
  have := h.sub.length_le
  rw [List.length_map] at this
  have h3 : (kinds3.take k).length ≤ 3 := by rw [List.length_take]; exact Nat.min_le_right _ _
  omega
theorem okRow_mk {z : Str} {r : Row} {ys : List Str} (hz : OkZ z) (h1 : r.nm ∈ sgn z) (h2 : Held 3 r.held) (h3 : Nms (sgn z) 3 ys) (h4 : r.later = sortS ys) : okRow r = true := by
  have a := List.all_eq_true.mp hz.nm
  have kn : ∀ k ∈ kinds3, okName k = true := by
    intro k hk
    have : kinds3.all okName = true := by decide +kernel
    exact List.all_eq_true.mp this k hk
  unfold okRow
  rw [a _ h1, asc3 h2, h4, sort_asc h3.nd]
  have b1 : r.held.all okHap = true := List.all_eq_true.mpr fun p hp => by
    have c1 := h2.rng p hp
    have c2 := kn p.1 (List.mem_of_mem_take (h2.sub.subset (List.mem_map_of_mem hp)))
    unfold okHap
    rw [c2, decide_eq_true c1.1, decide_eq_true c1.2]
    rfl
  have b2 : (sortS ys).all okName = true := List.all_eq_true.mpr fun y hy => a y (h3.sub y (sort_mem.mp hy))
  have b3 : decide ((sortS ys).length ≤ 3) = true := decide_eq_true (by rw [sort_len]; exact h3.len)
  have b4 : decide (r.held.length ≤ 1000) = true := decide_eq_true (by have := held_len h2; omega)
  rw [b1, b2, b3, b4]
  rfl
theorem okRows_mk {z : Str} {rs : List Row} (hz : OkZ z) (h : RowsTo z z.length rs) : OkRows rs := by
  have hn : rs.map Row.nm = sgn z := by rw [h.nms, ← sgn_len, List.take_length]
  have hl : rs.length = z.length := by rw [← sgn_len, ← hn, List.length_map]
  have l2 := hz.l2
  have l7 := hz.l7
  refine ⟨fun e => ?_, fun r hr => ?_, ?_, fun r hr x hx => ?_, by omega, ?_⟩
  · subst e; simp at hl; omega
  · obtain ⟨ys, y1, y2⟩ := h.lt r hr
    exact okRow_mk hz (hn ▸ List.mem_map_of_mem hr) (h.hl r hr) y1 y2
  · rw [hn]; exact hz.nd
  · obtain ⟨ys, y1, y2⟩ := h.lt r hr
    rw [y2] at hx
    rw [hn]
    exact y1.sub x (sort_mem.mp hx)
  · have : ∀ l : List Row, (∀ r ∈ l, Held 3 r.held) → (kindsOf l).length ≤ 3 * l.length := by
      intro l
      induction l with
      | nil => intro _; exact Nat.le_refl _
      | cons r l ih =>
        intro hh
        have a := ih fun x hx => hh x (List.mem_cons_of_mem _ hx)
        have b := held_len (hh r (by simp))
        unfold kindsOf at *
        rw [List.flatMap_cons, List.length_append, List.length_map, List.length_cons]
        omega
    have := this rs h.hl
    omega
theorem rows2 {M s m : Nat} {z : Str} {O : Out} (hz : OkZ z) (hs : z.length = s) (hm : m + 14 * s ≤ potMost) (q : ∀ rs m', RowsTo z s rs → m' ≤ m + 14 * s → O.rt (.tup (rs.map Row.d)) m') :
    b_law_rows_2.wp m (rwE M z s (.lst []) .any .any .any .any .any) O := by
  have l2 := hz.l2
  have l7 := hz.l7
  have e : rwE M z s (.lst []) .any .any .any .any .any = [.pot, .d (.int M), .d (.str z), .d (.int s), .own (.lst []), .any, .any, .any, .any, .any, .any] := rfl
  rw [e]
  have ei : enumD 0 (signs z) = ((sgn z).zipIdx).map fun p => D.tpk [.int ((p.2 : Nat) : Int), .str p.1] := by
    have : signs z = (sgn z).map .str := by
      have := items_sgn z
      rw [items_S] at this
      exact Option.some.inj this
    rw [this]
    unfold enumD
    rw [List.zipIdx_map, List.map_map]
    refine List.map_congr_left fun p _ => ?_
    simp
  have el : (enumD 0 (signs z)).length = s := by rw [ei, List.length_map, List.length_zipIdx, sgn_len, hs]
  unfold b_law_rows_2
  walk_at "ev"
  refine goForQ_all (fun k env => ∃ rs e5 e6 e7 e8 e9, RowsTo z k rs ∧ env = rwE M z s (.lst (rs.map Row.d)) e5 e6 e7 e8 e9) 14 (k := 0) (fun k d env m O' hd hr hm hO => ?_) ⟨[], _, _, _, _, _, ⟨by simp, by simp, by simp⟩, rfl⟩ (by rw [el]; exact hm) fun env' m' r hm' => ?_
  · obtain ⟨rs, e5, e6, e7, e8, e9, hR, rfl⟩ := hr
    rw [Nat.zero_add] at hR hO
    rw [ei, List.getElem?_map, List.getElem?_zipIdx] at hd
    have hx : ∃ x, (sgn z)[k]? = some x ∧ d = .tpk [.int (k : Nat), .str x] := by
      cases e : (sgn z)[k]? with
      | none => rw [e] at hd; cases hd
      | some x => rw [e] at hd; simp at hd; exact ⟨x, rfl, hd.symm⟩
    obtain ⟨x, hx, rfl⟩ := hx
    have rl : rs.length ≤ 7 := by
      have := congrArg List.length hR.nms
      rw [List.length_map, List.length_take, sgn_len] at this
      omega
    refine ⟨rwE M z s (.lst (rs.map Row.d)) (.d (.int k)) (.d (.str x)) e7 e8 e9, rfl, ?_⟩
    unfold b_law_rows_2_0
    rw [wp_qSeq, wp_qS, own_ev (show 7 < 11 by decide)]
    refine ⟨_, rfl, ?_⟩
    show b_law_rows_2_1.wp m (rwE M z s (.lst (rs.map Row.d)) (.d (.int k)) (.d (.str x)) (.own (.lst [])) e8 e9) O'
    refine rows21 (by omega) fun hs' e8 m1 hH hm1 => ?_
    refine rows22 (by rw [sgn_len]; exact hs) (by omega) (by omega) (by omega) (by omega) fun ys m2 hy hm2 => ?_
    refine hO _ _ ⟨_, _, _, _, _, _, ⟨?_, ?_, ?_⟩, rfl⟩ (by omega)
    · rw [List.map_append, hR.nms, List.take_succ, hx]
      rfl
    · intro r hr
      rcases List.mem_append.mp hr with hr | hr
      · exact hR.hl r hr
      · simp at hr; subst hr; exact hH
    · intro r hr
      rcases List.mem_append.mp hr with hr | hr
      · exact hR.lt r hr
      · simp at hr; subst hr; exact ⟨ys, hy, rfl⟩
  · obtain ⟨rs, e5, e6, e7, e8, e9, hR, rfl⟩ := r
    rw [Nat.zero_add, el] at hR
    rw [el] at hm'
    have := q rs m' hR hm'
    unfold rwE b_law_rows_3
    walk_at "evh"
end FR
namespace FR
open PySem PySem.Spec PyProof.Rows L2
variable [TheW]
local macro_rules | `(tactic| walk_at "ev") => `(tactic| simp only [ev_xDNew, ev_xDispV, ev_xDispI, wp_qPar3, ev_xDGetT, ev_fDNewT, ev_sDPutT, wp_qDPutT, ev_xLcK, ev_xCallG, ev_poOpt, sem_ltX, sem_ltXS, ev_xVar, ev_xInt, ev_xStr, ev_xBl, ev_xTy, ev_xNon, ev_aNil, ev_aCons, ev_xTup, ev_xLst, ev_xOp2, ev_xUn, ev_xFn, ev_xCall, ev_tB_, ev_tTest_, ev_tYes_, ev_tNot_, ev_tAnd_, ev_tOr_, ev_xAnd, ev_xOr, ev_xNot, ev_xIf, ev_xChain, ev_poNone, ev_poSome, ev_gName_, ev_gNil_, ev_gCons_, ev_gTup_, ev_xLc, ev_sNext, ev_sSeq, ev_sDrop, ev_sRet, ev_sRetN, ev_sIf, ev_sAsg, ev_sBreak, ev_sCont, ev_sFor, ev_sWhile, ev_jSeq, ev_jRange1, ev_jRange2, ev_xSl, ev_xRevT, ev_jZip, ev_xPeek, ev_tPeek, ev_sNever, ev_sFz, ev_sOwn, ev_fLst, ev_fLc, ev_fListT, ev_sSetF, ev_sAppend, ev_sExtend, ev_sPar, ev_sAugI, ev_xLc2, ev_xFld, ev_xMeth, ev_xMake, ev_sFld_, ev_xDGet, ev_xDIn, ev_xDGet2, ev_xDc, ev_xValsKeys, ev_xLenSet, ev_xSortSet, ev_jZip3, ev_sParL, ev_sPar3, wp_qE, wp_qA, wp_qT, wp_qI, wp_qF, wp_qP, wp_qS, wp_qCons, wp_qTup, wp_qLst, wp_qOp2, wp_qUn, wp_qFn, wp_qCall, wp_qDraw, wp_qB, wp_qTest, wp_qNotT, wp_qAndT, wp_qOrT, wp_qAnd, wp_qOr, wp_qNot, wp_qIf, wp_qChain, wp_qPart, wp_qSeqI, wp_qRange1, wp_qRange2, wp_qLc, wp_qfLc, wp_qSeq, wp_qDrop, wp_qRet, wp_qIfS, wp_qAsg, wp_qFor, wp_qWhile, wp_qFz, wp_qSetF, wp_qAppend, wp_qExtend, wp_qPar, ev_jEnum1, ev_jEnum2, wp_qParM2, wp_qParM3, wp_qParMN, ev_sParM2, ev_sParM3, ev_sParMN, ev_fDNew, ev_fDict, wp_qfDict, wp_qfLst, ev_sDPut_, ev_fRep, ev_sIxPut, ev_jZipM, ev_xOrT, ev_xAndT, tru_lst, tru_tup, tru_non, tru_bl, List.getElem?_cons_zero, List.getElem?_cons_succ, List.set_cons_zero, List.set_cons_succ, List.map_cons, List.map_nil, List.length_cons, List.length_nil, List.length_map, Option.bind_some, Option.bind_none, atEnv_d, ownAt_o, blOf_b, inOf_i, lstOf_l, hide_d, hide_any, hide_own, hide_pot, frz_d, frz_any, frz_own, frz_pot, wipeE, when_t, when_f, end_rt, end_nx, Bool.not_true, Bool.not_false, lc1, Nat.zero_add, Nat.reduceAdd, Int.cast_ofNat_Int, beq_self_eq_true, Int.reduceBEq, Int.reduceLE, Int.reduceLT, decide_true, decide_false, Int.reduceNeg, Nat.reduceBEq, Bool.and_true, Bool.true_and, Bool.and_false, Bool.false_and, insOf_s, dctOf_d, keyOf_s, keyOf_i, unown, freeAt, ownAt_a, ownAt_dd, ownAt_p, blt_dec, Nat.reduceLT, Option.isNone_none, Option.isNone_some, fzAt, mpEv, parEnv, unowns, ex_some, ex_int, ex_two, ex_lst, at_nx, at_rt, isNon_i, isNon_s, isNon_n, true_and, and_true, nbeq, at0, at1, at2, sz0, sz1, sz2, sz3, sz4, sz5, sz6, sz7, sz8, bools_map, wholes_map, texts_map, all_id, any_id, sem_lt, sem_le, sem_gt, sem_ge, sem_ltS, sem_leS, sem_add, sem_addT, sem_addL, sem_sub, sem_mul, sem_mod, sem_div, sem_neg, sem_is, sem_isnt, sem_eqI, sem_neI, sem_eqS, sem_neS, sem_eqB, sem_lenT, sem_lenL, sem_lenS, sem_tupL, sem_tupT, sem_lstT, sem_lstL, sem_intI, sem_intB, sem_all, sem_any, sem_sum, sem_min, sem_max, sem_ixT, sem_ixL, sem_ixS, sem_repr, sem_slT, sem_slL, items_T, items_L, items_S, isi_int_int, isi_int_bool, isi_int_str, isi_int_tuple, isi_int_list, isi_int_dict, isi_bl_int, isi_bl_bool, isi_bl_str, isi_bl_tuple, isi_bl_list, isi_bl_dict, isi_str_int, isi_str_bool, isi_str_str, isi_str_tuple, isi_str_list, isi_str_dict, isi_tup_int, isi_tup_bool, isi_tup_str, isi_tup_tuple, isi_tup_list, isi_tup_dict, isi_lst_int, isi_lst_bool, isi_lst_str, isi_lst_tuple, isi_lst_list, isi_lst_dict, isi_non_int, isi_non_bool, isi_non_str, isi_non_tuple, isi_non_list, isi_non_dict, isi_dct_int, isi_dct_bool, isi_dct_str, isi_dct_tuple, isi_dct_list, isi_dct_dict])
local macro_rules | `(tactic| walk_at "evh") => `(tactic| simp only [*, ev_xDNew, ev_xDispV, ev_xDispI, wp_qPar3, ev_xDGetT, ev_fDNewT, ev_sDPutT, wp_qDPutT, ev_xLcK, ev_xCallG, ev_poOpt, sem_ltX, sem_ltXS, ev_xVar, ev_xInt, ev_xStr, ev_xBl, ev_xTy, ev_xNon, ev_aNil, ev_aCons, ev_xTup, ev_xLst, ev_xOp2, ev_xUn, ev_xFn, ev_xCall, ev_tB_, ev_tTest_, ev_tYes_, ev_tNot_, ev_tAnd_, ev_tOr_, ev_xAnd, ev_xOr, ev_xNot, ev_xIf, ev_xChain, ev_poNone, ev_poSome, ev_gName_, ev_gNil_, ev_gCons_, ev_gTup_, ev_xLc, ev_sNext, ev_sSeq, ev_sDrop, ev_sRet, ev_sRetN, ev_sIf, ev_sAsg, ev_sBreak, ev_sCont, ev_sFor, ev_sWhile, ev_jSeq, ev_jRange1, ev_jRange2, ev_xSl, ev_xRevT, ev_jZip, ev_xPeek, ev_tPeek, ev_sNever, ev_sFz, ev_sOwn, ev_fLst, ev_fLc, ev_fListT, ev_sSetF, ev_sAppend, ev_sExtend, ev_sPar, ev_sAugI, ev_xLc2, ev_xFld, ev_xMeth, ev_xMake, ev_sFld_, ev_xDGet, ev_xDIn, ev_xDGet2, ev_xDc, ev_xValsKeys, ev_xLenSet, ev_xSortSet, ev_jZip3, ev_sParL, ev_sPar3, wp_qE, wp_qA, wp_qT, wp_qI, wp_qF, wp_qP, wp_qS, wp_qCons, wp_qTup, wp_qLst, wp_qOp2, wp_qUn, wp_qFn, wp_qCall, wp_qDraw, wp_qB, wp_qTest, wp_qNotT, wp_qAndT, wp_qOrT, wp_qAnd, wp_qOr, wp_qNot, wp_qIf, wp_qChain, wp_qPart, wp_qSeqI, wp_qRange1, wp_qRange2, wp_qLc, wp_qfLc, wp_qSeq, wp_qDrop, wp_qRet, wp_qIfS, wp_qAsg, wp_qFor, wp_qWhile, wp_qFz, wp_qSetF, wp_qAppend, wp_qExtend, wp_qPar, ev_jEnum1, ev_jEnum2, wp_qParM2, wp_qParM3, wp_qParMN, ev_sParM2, ev_sParM3, ev_sParMN, ev_fDNew, ev_fDict, wp_qfDict, wp_qfLst, ev_sDPut_, ev_fRep, ev_sIxPut, ev_jZipM, ev_xOrT, ev_xAndT, tru_lst, tru_tup, tru_non, tru_bl, List.getElem?_cons_zero, List.getElem?_cons_succ, List.set_cons_zero, List.set_cons_succ, List.map_cons, List.map_nil, List.length_cons, List.length_nil, List.length_map, Option.bind_some, Option.bind_none, atEnv_d, ownAt_o, blOf_b, inOf_i, lstOf_l, hide_d, hide_any, hide_own, hide_pot, frz_d, frz_any, frz_own, frz_pot, wipeE, when_t, when_f, end_rt, end_nx, Bool.not_true, Bool.not_false, lc1, Nat.zero_add, Nat.reduceAdd, Int.cast_ofNat_Int, beq_self_eq_true, Int.reduceBEq, Int.reduceLE, Int.reduceLT, decide_true, decide_false, Int.reduceNeg, Nat.reduceBEq, Bool.and_true, Bool.true_and, Bool.and_false, Bool.false_and, insOf_s, dctOf_d, keyOf_s, keyOf_i, unown, freeAt, ownAt_a, ownAt_dd, ownAt_p, blt_dec, Nat.reduceLT, Option.isNone_none, Option.isNone_some, fzAt, mpEv, parEnv, unowns, ex_some, ex_int, ex_two, ex_lst, at_nx, at_rt, isNon_i, isNon_s, isNon_n, true_and, and_true, nbeq, at0, at1, at2, sz0, sz1, sz2, sz3, sz4, sz5, sz6, sz7, sz8, bools_map, wholes_map, texts_map, all_id, any_id, sem_lt, sem_le, sem_gt, sem_ge, sem_ltS, sem_leS, sem_add, sem_addT, sem_addL, sem_sub, sem_mul, sem_mod, sem_div, sem_neg, sem_is, sem_isnt, sem_eqI, sem_neI, sem_eqS, sem_neS, sem_eqB, sem_lenT, sem_lenL, sem_lenS, sem_tupL, sem_tupT, sem_lstT, sem_lstL, sem_intI, sem_intB, sem_all, sem_any, sem_sum, sem_min, sem_max, sem_ixT, sem_ixL, sem_ixS, sem_repr, sem_slT, sem_slL, items_T, items_L, items_S, isi_int_int, isi_int_bool, isi_int_str, isi_int_tuple, isi_int_list, isi_int_dict, isi_bl_int, isi_bl_bool, isi_bl_str, isi_bl_tuple, isi_bl_list, isi_bl_dict, isi_str_int, isi_str_bool, isi_str_str, isi_str_tuple, isi_str_list, isi_str_dict, isi_tup_int, isi_tup_bool, isi_tup_str, isi_tup_tuple, isi_tup_list, isi_tup_dict, isi_lst_int, isi_lst_bool, isi_lst_str, isi_lst_tuple, isi_lst_list, isi_lst_dict, isi_non_int, isi_non_bool, isi_non_str, isi_non_tuple, isi_non_list, isi_non_dict, isi_dct_int, isi_dct_bool, isi_dct_str, isi_dct_tuple, isi_dct_list, isi_dct_dict])

theorem cutZ {s : Nat} (h2 : 2 ≤ s) (h7 : s ≤ 7) : ∃ z, mSl.f (.str "dbaecgf") none (some (s : Int)) = some (.str z) ∧ OkZ z ∧ z.length = s := by
  match s, h2, h7 with
  | 2, _, _ => exact ⟨"db", rfl, ⟨by decide +kernel, by decide +kernel, by decide, by decide⟩, rfl⟩
  | 3, _, _ => exact ⟨"dba", rfl, ⟨by decide +kernel, by decide +kernel, by decide, by decide⟩, rfl⟩
  | 4, _, _ => exact ⟨"dbae", rfl, ⟨by decide +kernel, by decide +kernel, by decide, by decide⟩, rfl⟩
  | 5, _, _ => exact ⟨"dbaec", rfl, ⟨by decide +kernel, by decide +kernel, by decide, by decide⟩, rfl⟩
  | 6, _, _ => exact ⟨"dbaecg", rfl, ⟨by decide +kernel, by decide +kernel, by decide, by decide⟩, rfl⟩
  | 7, _, _ => exact ⟨"dbaecgf", rfl, ⟨by decide +kernel, by decide +kernel, by decide, by decide⟩, rfl⟩
  | n + 8, _, h => omega
theorem rows_ok {M n : Nat} {Φ : D → Nat → Prop} (h2 : 2 ≤ M) (h7 : M ≤ 7) (hn : n + 1 + 14 * M ≤ potMost) (q : ∀ z rs m', OkZ z → z.length ≤ M → RowsTo z z.length rs → m' ≤ n + 1 + 14 * M → Φ (.tup (rs.map Row.d)) m') : m_law_rows [.int M] n Φ := by
  refine ⟨rfl, ?_⟩
  show b_law_rows_0.wp n [.pot, .d (.int M), .any, .any, .any, .any, .any, .any, .any, .any, .any] _
  unfold b_law_rows_0
  walk_at "ev"
  simp only [mxWp]
  walk_at "ev"
  have e : (M : Int) - 1 = ((M - 1 : Nat) : Int) := by omega
  rw [e]
  refine take_ok (m := M - 1) (by omega) (by omega) (by omega) fun r hr => ?_
  walk_at "ev"
  obtain ⟨z, z1, z2, z3⟩ := cutZ (s := 2 + r) (by omega) (by omega)
  have e2 : (2 : Int) + (r : Int) = ((2 + r : Nat) : Int) := by omega
  rw [e2]
  unfold b_law_rows_1
  have q2 := rows2 (M := M) (s := 2 + r) (m := n + 1) (z := z) (O := { nx := fun _ m => Φ .non m, rt := Φ }) z2 z3 (by omega) fun rs m' hR hm' => q z rs m' z2 (by omega) (by rw [z3]; exact hR) (by omega)
  unfold rwE at q2
  clear q hr e e2 z2 z3 hn h2 h7
  walk_at "evh"
theorem range_len (k : Nat) : (rangeD 0 k).length = k := by unfold rangeD; simp
end FR
namespace FR
open PySem PySem.Spec PyProof.Rows L2
variable [TheW]
local macro_rules | `(tactic| walk_at "ev") => `(tactic| simp only [ev_xDNew, ev_xDispV, ev_xDispI, wp_qPar3, ev_xDGetT, ev_fDNewT, ev_sDPutT, wp_qDPutT, ev_xLcK, ev_xCallG, ev_poOpt, sem_ltX, sem_ltXS, ev_xVar, ev_xInt, ev_xStr, ev_xBl, ev_xTy, ev_xNon, ev_aNil, ev_aCons, ev_xTup, ev_xLst, ev_xOp2, ev_xUn, ev_xFn, ev_xCall, ev_tB_, ev_tTest_, ev_tYes_, ev_tNot_, ev_tAnd_, ev_tOr_, ev_xAnd, ev_xOr, ev_xNot, ev_xIf, ev_xChain, ev_poNone, ev_poSome, ev_gName_, ev_gNil_, ev_gCons_, ev_gTup_, ev_xLc, ev_sNext, ev_sSeq, ev_sDrop, ev_sRet, ev_sRetN, ev_sIf, ev_sAsg, ev_sBreak, ev_sCont, ev_sFor, ev_sWhile, ev_jSeq, ev_jRange1, ev_jRange2, ev_xSl, ev_xRevT, ev_jZip, ev_xPeek, ev_tPeek, ev_sNever, ev_sFz, ev_sOwn, ev_fLst, ev_fLc, ev_fListT, ev_sSetF, ev_sAppend, ev_sExtend, ev_sPar, ev_sAugI, ev_xLc2, ev_xFld, ev_xMeth, ev_xMake, ev_sFld_, ev_xDGet, ev_xDIn, ev_xDGet2, ev_xDc, ev_xValsKeys, ev_xLenSet, ev_xSortSet, ev_jZip3, ev_sParL, ev_sPar3, wp_qE, wp_qA, wp_qT, wp_qI, wp_qF, wp_qP, wp_qS, wp_qCons, wp_qTup, wp_qLst, wp_qOp2, wp_qUn, wp_qFn, wp_qCall, wp_qDraw, wp_qB, wp_qTest, wp_qNotT, wp_qAndT, wp_qOrT, wp_qAnd, wp_qOr, wp_qNot, wp_qIf, wp_qChain, wp_qPart, wp_qSeqI, wp_qRange1, wp_qRange2, wp_qLc, wp_qfLc, wp_qSeq, wp_qDrop, wp_qRet, wp_qIfS, wp_qAsg, wp_qFor, wp_qWhile, wp_qFz, wp_qSetF, wp_qAppend, wp_qExtend, wp_qPar, ev_jEnum1, ev_jEnum2, wp_qParM2, wp_qParM3, wp_qParMN, ev_sParM2, ev_sParM3, ev_sParMN, ev_fDNew, ev_fDict, wp_qfDict, wp_qfLst, ev_sDPut_, ev_fRep, ev_sIxPut, ev_jZipM, ev_xOrT, ev_xAndT, tru_lst, tru_tup, tru_non, tru_bl, List.getElem?_cons_zero, List.getElem?_cons_succ, List.set_cons_zero, List.set_cons_succ, List.map_cons, List.map_nil, List.length_cons, List.length_nil, List.length_map, Option.bind_some, Option.bind_none, atEnv_d, ownAt_o, blOf_b, inOf_i, lstOf_l, hide_d, hide_any, hide_own, hide_pot, frz_d, frz_any, frz_own, frz_pot, wipeE, when_t, when_f, end_rt, end_nx, Bool.not_true, Bool.not_false, lc1, Nat.zero_add, Nat.reduceAdd, Int.cast_ofNat_Int, beq_self_eq_true, Int.reduceBEq, Int.reduceLE, Int.reduceLT, decide_true, decide_false, Int.reduceNeg, Nat.reduceBEq, Bool.and_true, Bool.true_and, Bool.and_false, Bool.false_and, insOf_s, dctOf_d, keyOf_s, keyOf_i, unown, freeAt, ownAt_a, ownAt_dd, ownAt_p, blt_dec, Nat.reduceLT, Option.isNone_none, Option.isNone_some, fzAt, mpEv, parEnv, unowns, ex_some, ex_int, ex_two, ex_lst, at_nx, at_rt, isNon_i, isNon_s, isNon_n, true_and, and_true, nbeq, at0, at1, at2, sz0, sz1, sz2, sz3, sz4, sz5, sz6, sz7, sz8, bools_map, wholes_map, texts_map, all_id, any_id, sem_lt, sem_le, sem_gt, sem_ge, sem_ltS, sem_leS, sem_add, sem_addT, sem_addL, sem_sub, sem_mul, sem_mod, sem_div, sem_neg, sem_is, sem_isnt, sem_eqI, sem_neI, sem_eqS, sem_neS, sem_eqB, sem_lenT, sem_lenL, sem_lenS, sem_tupL, sem_tupT, sem_lstT, sem_lstL, sem_intI, sem_intB, sem_all, sem_any, sem_sum, sem_min, sem_max, sem_ixT, sem_ixL, sem_ixS, sem_repr, sem_slT, sem_slL, items_T, items_L, items_S, isi_int_int, isi_int_bool, isi_int_str, isi_int_tuple, isi_int_list, isi_int_dict, isi_bl_int, isi_bl_bool, isi_bl_str, isi_bl_tuple, isi_bl_list, isi_bl_dict, isi_str_int, isi_str_bool, isi_str_str, isi_str_tuple, isi_str_list, isi_str_dict, isi_tup_int, isi_tup_bool, isi_tup_str, isi_tup_tuple, isi_tup_list, isi_tup_dict, isi_lst_int, isi_lst_bool, isi_lst_str, isi_lst_tuple, isi_lst_list, isi_lst_dict, isi_non_int, isi_non_bool, isi_non_str, isi_non_tuple, isi_non_list, isi_non_dict, isi_dct_int, isi_dct_bool, isi_dct_str, isi_dct_tuple, isi_dct_list, isi_dct_dict])
local macro_rules | `(tactic| walk_at "evh") => `(tactic| simp only [*, ev_xDNew, ev_xDispV, ev_xDispI, wp_qPar3, ev_xDGetT, ev_fDNewT, ev_sDPutT, wp_qDPutT, ev_xLcK, ev_xCallG, ev_poOpt, sem_ltX, sem_ltXS, ev_xVar, ev_xInt, ev_xStr, ev_xBl, ev_xTy, ev_xNon, ev_aNil, ev_aCons, ev_xTup, ev_xLst, ev_xOp2, ev_xUn, ev_xFn, ev_xCall, ev_tB_, ev_tTest_, ev_tYes_, ev_tNot_, ev_tAnd_, ev_tOr_, ev_xAnd, ev_xOr, ev_xNot, ev_xIf, ev_xChain, ev_poNone, ev_poSome, ev_gName_, ev_gNil_, ev_gCons_, ev_gTup_, ev_xLc, ev_sNext, ev_sSeq, ev_sDrop, ev_sRet, ev_sRetN, ev_sIf, ev_sAsg, ev_sBreak, ev_sCont, ev_sFor, ev_sWhile, ev_jSeq, ev_jRange1, ev_jRange2, ev_xSl, ev_xRevT, ev_jZip, ev_xPeek, ev_tPeek, ev_sNever, ev_sFz, ev_sOwn, ev_fLst, ev_fLc, ev_fListT, ev_sSetF, ev_sAppend, ev_sExtend, ev_sPar, ev_sAugI, ev_xLc2, ev_xFld, ev_xMeth, ev_xMake, ev_sFld_, ev_xDGet, ev_xDIn, ev_xDGet2, ev_xDc, ev_xValsKeys, ev_xLenSet, ev_xSortSet, ev_jZip3, ev_sParL, ev_sPar3, wp_qE, wp_qA, wp_qT, wp_qI, wp_qF, wp_qP, wp_qS, wp_qCons, wp_qTup, wp_qLst, wp_qOp2, wp_qUn, wp_qFn, wp_qCall, wp_qDraw, wp_qB, wp_qTest, wp_qNotT, wp_qAndT, wp_qOrT, wp_qAnd, wp_qOr, wp_qNot, wp_qIf, wp_qChain, wp_qPart, wp_qSeqI, wp_qRange1, wp_qRange2, wp_qLc, wp_qfLc, wp_qSeq, wp_qDrop, wp_qRet, wp_qIfS, wp_qAsg, wp_qFor, wp_qWhile, wp_qFz, wp_qSetF, wp_qAppend, wp_qExtend, wp_qPar, ev_jEnum1, ev_jEnum2, wp_qParM2, wp_qParM3, wp_qParMN, ev_sParM2, ev_sParM3, ev_sParMN, ev_fDNew, ev_fDict, wp_qfDict, wp_qfLst, ev_sDPut_, ev_fRep, ev_sIxPut, ev_jZipM, ev_xOrT, ev_xAndT, tru_lst, tru_tup, tru_non, tru_bl, List.getElem?_cons_zero, List.getElem?_cons_succ, List.set_cons_zero, List.set_cons_succ, List.map_cons, List.map_nil, List.length_cons, List.length_nil, List.length_map, Option.bind_some, Option.bind_none, atEnv_d, ownAt_o, blOf_b, inOf_i, lstOf_l, hide_d, hide_any, hide_own, hide_pot, frz_d, frz_any, frz_own, frz_pot, wipeE, when_t, when_f, end_rt, end_nx, Bool.not_true, Bool.not_false, lc1, Nat.zero_add, Nat.reduceAdd, Int.cast_ofNat_Int, beq_self_eq_true, Int.reduceBEq, Int.reduceLE, Int.reduceLT, decide_true, decide_false, Int.reduceNeg, Nat.reduceBEq, Bool.and_true, Bool.true_and, Bool.and_false, Bool.false_and, insOf_s, dctOf_d, keyOf_s, keyOf_i, unown, freeAt, ownAt_a, ownAt_dd, ownAt_p, blt_dec, Nat.reduceLT, Option.isNone_none, Option.isNone_some, fzAt, mpEv, parEnv, unowns, ex_some, ex_int, ex_two, ex_lst, at_nx, at_rt, isNon_i, isNon_s, isNon_n, true_and, and_true, nbeq, at0, at1, at2, sz0, sz1, sz2, sz3, sz4, sz5, sz6, sz7, sz8, bools_map, wholes_map, texts_map, all_id, any_id, sem_lt, sem_le, sem_gt, sem_ge, sem_ltS, sem_leS, sem_add, sem_addT, sem_addL, sem_sub, sem_mul, sem_mod, sem_div, sem_neg, sem_is, sem_isnt, sem_eqI, sem_neI, sem_eqS, sem_neS, sem_eqB, sem_lenT, sem_lenL, sem_lenS, sem_tupL, sem_tupT, sem_lstT, sem_lstL, sem_intI, sem_intB, sem_all, sem_any, sem_sum, sem_min, sem_max, sem_ixT, sem_ixL, sem_ixS, sem_repr, sem_slT, sem_slL, items_T, items_L, items_S, isi_int_int, isi_int_bool, isi_int_str, isi_int_tuple, isi_int_list, isi_int_dict, isi_bl_int, isi_bl_bool, isi_bl_str, isi_bl_tuple, isi_bl_list, isi_bl_dict, isi_str_int, isi_str_bool, isi_str_str, isi_str_tuple, isi_str_list, isi_str_dict, isi_tup_int, isi_tup_bool, isi_tup_str, isi_tup_tuple, isi_tup_list, isi_tup_dict, isi_lst_int, isi_lst_bool, isi_lst_str, isi_lst_tuple, isi_lst_list, isi_lst_dict, isi_non_int, isi_non_bool, isi_non_str, isi_non_tuple, isi_non_list, isi_non_dict, isi_dct_int, isi_dct_bool, isi_dct_str, isi_dct_tuple, isi_dct_list, isi_dct_dict])

/-! ## questions -/
/-- of a step?, the title, the weight -/
abbrev Item := Bool × Str × Int
def sortW (b : Bool) : Str := if b = true then "step" else "kind"
def itemD (q : Item) : D := .tup [.str (sortW q.1), .str q.2.1, .int q.2.2]
def pairQ (q : Item) : D := .tup [.str (sortW q.1), .str q.2.1]
structure OkQ (qs : List Item) : Prop where
  nm : ∀ q ∈ qs, okName q.2.1 = true
  wt : ∀ q ∈ qs, q.2.2 ≠ 0 ∧ q.2.2.natAbs ≤ 1000000
  len : qs.length ≤ 1000
  asc : m_is_ascending [.lst (qs.map pairQ)] = some (.bl true)
theorem integer_ok (i : Int) : m_is_integer [.int i] = some (.bl true) := m_integer_int i
theorem item_ok {q : Item} (hn : okName q.2.1 = true) (hw : q.2.2 ≠ 0) : m_is_item [itemD q] = some (.bl true) := by
  obtain ⟨b, t, w⟩ := q
  dsimp only at hn hw
  have e1 := name_ok hn
  have e2 := m_integer_int w
  have e3 : (!(w == 0)) = true := by
    have : (w == 0) = false := by rw [beq_eq_false_iff_ne]; exact hw
    rw [this]
    rfl
  have e4 : mNin.f (.str (sortW b)) (.tup [.str "kind", .str "step"]) = some (.bl false) := by cases b <;> rfl
  have ei : itemD (b, t, w) = .tup [.str (sortW b), .str t, .int w] := rfl
  have e5 := isi_str_str (sortW b)
  rw [mE_is_item]
  unfold b_is_item
  rw [ei]
  generalize sortW b = sb at *
  clear hn hw ei
  walk_at "evh"
theorem question_ok {qs : List Item} (h : OkQ qs) : m_is_question [.tup (qs.map itemD)] = some (.bl true) := by
  have hl := h.len
  have ez : szOk qs.length = true := szOk_of (by omega)
  have g1 : goLc (gName_ 1) tYes_ (xCall m_is_item (aCons (xVar 1) aNil)) [.d (.tup (qs.map itemD)), .any] (qs.map itemD) = some (qs.map fun _ => D.bl true) := by
    refine goLc_map fun q hq => ?_
    have e := item_ok (h.nm q hq) (h.wt q hq).1
    clear h hq
    walk_at "evh"
  have g2 : goLc (gName_ 1) tYes_ (xSl mSl (xVar 1) poNone (poSome (xInt 2))) [.d (.tup (qs.map itemD)), .any] (qs.map itemD) = some (qs.map pairQ) := by
    refine goLc_map fun q hq => ?_
    have ei : itemD q = .tup [.str (sortW q.1), .str q.2.1, .int q.2.2] := rfl
    have ec : cutD [.str (sortW q.1), .str q.2.1, .int q.2.2] none (some 2) = [.str (sortW q.1), .str q.2.1] := rfl
    have ep : pairQ q = .tup [.str (sortW q.1), .str q.2.1] := rfl
    rw [ei, ep]
    clear h hq ei ep
    walk_at "evh"
  have ea := h.asc
  have al : (qs.all fun _ => true) = true := List.all_eq_true.mpr fun _ _ => rfl
  rw [mE_is_question]
  unfold b_is_question
  clear h hl
  walk_at "evh"
/-! ### what a step is worth -/
def wQ (rs : List Row) (x : Str) (q : Item) : Int := q.2.2 * (if q.1 = true then (if (q.2.1 == x) = true then 1 else 0) else cntOf rs x q.2.1)
def wOf (rs : List Row) (qs : List Item) (x : Str) : Int := (qs.map (wQ rs x)).sum
theorem cnt_none {rs : List Row} {x k : Str} (hk : (kindsS rs).elem k = false) : cntOf rs x k = 0 := by
  rw [mem_kinds] at hk
  have hk2 : k ∉ kindsOf rs := fun z => by
    rw [List.elem_eq_true_of_mem z] at hk
    cases hk
  unfold cntOf
  cases hr : rowOf rs x with
  | none => rfl
  | some r =>
    have hm : r ∈ rs := List.mem_of_find?_eq_some hr
    show ((r.held.lookup k).getD 0) = 0
    rw [held_none fun z => hk2 (List.mem_flatMap.mpr ⟨r, hm, z⟩)]
    rfl
theorem sm64_abs {i : Int} (h : i.natAbs ≤ 1000000) : sm64 i = true := sm64_of (by omega) (by omega)
theorem fold_int (f : Item → Int) : ∀ (qs : List Item) (a : Int), qs.foldl (fun a q => a + f q) a = a + (qs.map f).sum
  | [], a => by simp
  | q :: qs, a => by rw [List.foldl_cons, fold_int f qs, List.map_cons, List.sum_cons, Int.add_assoc]
def weG : Tgx := gTup_ 3 (gCons_ (gName_ 4) (gCons_ (gName_ 5) (gCons_ (gName_ 6) gNil_)))
end FR
namespace FR
open PySem PySem.Spec PyProof.Rows L2
variable [TheW]
local macro_rules | `(tactic| walk_at "ev") => `(tactic| simp only [ev_xDNew, ev_xDispV, ev_xDispI, wp_qPar3, ev_xDGetT, ev_fDNewT, ev_sDPutT, wp_qDPutT, ev_xLcK, ev_xCallG, ev_poOpt, sem_ltX, sem_ltXS, ev_xVar, ev_xInt, ev_xStr, ev_xBl, ev_xTy, ev_xNon, ev_aNil, ev_aCons, ev_xTup, ev_xLst, ev_xOp2, ev_xUn, ev_xFn, ev_xCall, ev_tB_, ev_tTest_, ev_tYes_, ev_tNot_, ev_tAnd_, ev_tOr_, ev_xAnd, ev_xOr, ev_xNot, ev_xIf, ev_xChain, ev_poNone, ev_poSome, ev_gName_, ev_gNil_, ev_gCons_, ev_gTup_, ev_xLc, ev_sNext, ev_sSeq, ev_sDrop, ev_sRet, ev_sRetN, ev_sIf, ev_sAsg, ev_sBreak, ev_sCont, ev_sFor, ev_sWhile, ev_jSeq, ev_jRange1, ev_jRange2, ev_xSl, ev_xRevT, ev_jZip, ev_xPeek, ev_tPeek, ev_sNever, ev_sFz, ev_sOwn, ev_fLst, ev_fLc, ev_fListT, ev_sSetF, ev_sAppend, ev_sExtend, ev_sPar, ev_sAugI, ev_xLc2, ev_xFld, ev_xMeth, ev_xMake, ev_sFld_, ev_xDGet, ev_xDIn, ev_xDGet2, ev_xDc, ev_xValsKeys, ev_xLenSet, ev_xSortSet, ev_jZip3, ev_sParL, ev_sPar3, wp_qE, wp_qA, wp_qT, wp_qI, wp_qF, wp_qP, wp_qS, wp_qCons, wp_qTup, wp_qLst, wp_qOp2, wp_qUn, wp_qFn, wp_qCall, wp_qDraw, wp_qB, wp_qTest, wp_qNotT, wp_qAndT, wp_qOrT, wp_qAnd, wp_qOr, wp_qNot, wp_qIf, wp_qChain, wp_qPart, wp_qSeqI, wp_qRange1, wp_qRange2, wp_qLc, wp_qfLc, wp_qSeq, wp_qDrop, wp_qRet, wp_qIfS, wp_qAsg, wp_qFor, wp_qWhile, wp_qFz, wp_qSetF, wp_qAppend, wp_qExtend, wp_qPar, ev_jEnum1, ev_jEnum2, wp_qParM2, wp_qParM3, wp_qParMN, ev_sParM2, ev_sParM3, ev_sParMN, ev_fDNew, ev_fDict, wp_qfDict, wp_qfLst, ev_sDPut_, ev_fRep, ev_sIxPut, ev_jZipM, ev_xOrT, ev_xAndT, tru_lst, tru_tup, tru_non, tru_bl, List.getElem?_cons_zero, List.getElem?_cons_succ, List.set_cons_zero, List.set_cons_succ, List.map_cons, List.map_nil, List.length_cons, List.length_nil, List.length_map, Option.bind_some, Option.bind_none, atEnv_d, ownAt_o, blOf_b, inOf_i, lstOf_l, hide_d, hide_any, hide_own, hide_pot, frz_d, frz_any, frz_own, frz_pot, wipeE, when_t, when_f, end_rt, end_nx, Bool.not_true, Bool.not_false, lc1, Nat.zero_add, Nat.reduceAdd, Int.cast_ofNat_Int, beq_self_eq_true, Int.reduceBEq, Int.reduceLE, Int.reduceLT, decide_true, decide_false, Int.reduceNeg, Nat.reduceBEq, Bool.and_true, Bool.true_and, Bool.and_false, Bool.false_and, insOf_s, dctOf_d, keyOf_s, keyOf_i, unown, freeAt, ownAt_a, ownAt_dd, ownAt_p, blt_dec, Nat.reduceLT, Option.isNone_none, Option.isNone_some, fzAt, mpEv, parEnv, unowns, ex_some, ex_int, ex_two, ex_lst, at_nx, at_rt, isNon_i, isNon_s, isNon_n, true_and, and_true, nbeq, at0, at1, at2, sz0, sz1, sz2, sz3, sz4, sz5, sz6, sz7, sz8, bools_map, wholes_map, texts_map, all_id, any_id, sem_lt, sem_le, sem_gt, sem_ge, sem_ltS, sem_leS, sem_add, sem_addT, sem_addL, sem_sub, sem_mul, sem_mod, sem_div, sem_neg, sem_is, sem_isnt, sem_eqI, sem_neI, sem_eqS, sem_neS, sem_eqB, sem_lenT, sem_lenL, sem_lenS, sem_tupL, sem_tupT, sem_lstT, sem_lstL, sem_intI, sem_intB, sem_all, sem_any, sem_sum, sem_min, sem_max, sem_ixT, sem_ixL, sem_ixS, sem_repr, sem_slT, sem_slL, items_T, items_L, items_S, isi_int_int, isi_int_bool, isi_int_str, isi_int_tuple, isi_int_list, isi_int_dict, isi_bl_int, isi_bl_bool, isi_bl_str, isi_bl_tuple, isi_bl_list, isi_bl_dict, isi_str_int, isi_str_bool, isi_str_str, isi_str_tuple, isi_str_list, isi_str_dict, isi_tup_int, isi_tup_bool, isi_tup_str, isi_tup_tuple, isi_tup_list, isi_tup_dict, isi_lst_int, isi_lst_bool, isi_lst_str, isi_lst_tuple, isi_lst_list, isi_lst_dict, isi_non_int, isi_non_bool, isi_non_str, isi_non_tuple, isi_non_list, isi_non_dict, isi_dct_int, isi_dct_bool, isi_dct_str, isi_dct_tuple, isi_dct_list, isi_dct_dict])
local macro_rules | `(tactic| walk_at "evh") => `(tactic| simp only [*, ev_xDNew, ev_xDispV, ev_xDispI, wp_qPar3, ev_xDGetT, ev_fDNewT, ev_sDPutT, wp_qDPutT, ev_xLcK, ev_xCallG, ev_poOpt, sem_ltX, sem_ltXS, ev_xVar, ev_xInt, ev_xStr, ev_xBl, ev_xTy, ev_xNon, ev_aNil, ev_aCons, ev_xTup, ev_xLst, ev_xOp2, ev_xUn, ev_xFn, ev_xCall, ev_tB_, ev_tTest_, ev_tYes_, ev_tNot_, ev_tAnd_, ev_tOr_, ev_xAnd, ev_xOr, ev_xNot, ev_xIf, ev_xChain, ev_poNone, ev_poSome, ev_gName_, ev_gNil_, ev_gCons_, ev_gTup_, ev_xLc, ev_sNext, ev_sSeq, ev_sDrop, ev_sRet, ev_sRetN, ev_sIf, ev_sAsg, ev_sBreak, ev_sCont, ev_sFor, ev_sWhile, ev_jSeq, ev_jRange1, ev_jRange2, ev_xSl, ev_xRevT, ev_jZip, ev_xPeek, ev_tPeek, ev_sNever, ev_sFz, ev_sOwn, ev_fLst, ev_fLc, ev_fListT, ev_sSetF, ev_sAppend, ev_sExtend, ev_sPar, ev_sAugI, ev_xLc2, ev_xFld, ev_xMeth, ev_xMake, ev_sFld_, ev_xDGet, ev_xDIn, ev_xDGet2, ev_xDc, ev_xValsKeys, ev_xLenSet, ev_xSortSet, ev_jZip3, ev_sParL, ev_sPar3, wp_qE, wp_qA, wp_qT, wp_qI, wp_qF, wp_qP, wp_qS, wp_qCons, wp_qTup, wp_qLst, wp_qOp2, wp_qUn, wp_qFn, wp_qCall, wp_qDraw, wp_qB, wp_qTest, wp_qNotT, wp_qAndT, wp_qOrT, wp_qAnd, wp_qOr, wp_qNot, wp_qIf, wp_qChain, wp_qPart, wp_qSeqI, wp_qRange1, wp_qRange2, wp_qLc, wp_qfLc, wp_qSeq, wp_qDrop, wp_qRet, wp_qIfS, wp_qAsg, wp_qFor, wp_qWhile, wp_qFz, wp_qSetF, wp_qAppend, wp_qExtend, wp_qPar, ev_jEnum1, ev_jEnum2, wp_qParM2, wp_qParM3, wp_qParMN, ev_sParM2, ev_sParM3, ev_sParMN, ev_fDNew, ev_fDict, wp_qfDict, wp_qfLst, ev_sDPut_, ev_fRep, ev_sIxPut, ev_jZipM, ev_xOrT, ev_xAndT, tru_lst, tru_tup, tru_non, tru_bl, List.getElem?_cons_zero, List.getElem?_cons_succ, List.set_cons_zero, List.set_cons_succ, List.map_cons, List.map_nil, List.length_cons, List.length_nil, List.length_map, Option.bind_some, Option.bind_none, atEnv_d, ownAt_o, blOf_b, inOf_i, lstOf_l, hide_d, hide_any, hide_own, hide_pot, frz_d, frz_any, frz_own, frz_pot, wipeE, when_t, when_f, end_rt, end_nx, Bool.not_true, Bool.not_false, lc1, Nat.zero_add, Nat.reduceAdd, Int.cast_ofNat_Int, beq_self_eq_true, Int.reduceBEq, Int.reduceLE, Int.reduceLT, decide_true, decide_false, Int.reduceNeg, Nat.reduceBEq, Bool.and_true, Bool.true_and, Bool.and_false, Bool.false_and, insOf_s, dctOf_d, keyOf_s, keyOf_i, unown, freeAt, ownAt_a, ownAt_dd, ownAt_p, blt_dec, Nat.reduceLT, Option.isNone_none, Option.isNone_some, fzAt, mpEv, parEnv, unowns, ex_some, ex_int, ex_two, ex_lst, at_nx, at_rt, isNon_i, isNon_s, isNon_n, true_and, and_true, nbeq, at0, at1, at2, sz0, sz1, sz2, sz3, sz4, sz5, sz6, sz7, sz8, bools_map, wholes_map, texts_map, all_id, any_id, sem_lt, sem_le, sem_gt, sem_ge, sem_ltS, sem_leS, sem_add, sem_addT, sem_addL, sem_sub, sem_mul, sem_mod, sem_div, sem_neg, sem_is, sem_isnt, sem_eqI, sem_neI, sem_eqS, sem_neS, sem_eqB, sem_lenT, sem_lenL, sem_lenS, sem_tupL, sem_tupT, sem_lstT, sem_lstL, sem_intI, sem_intB, sem_all, sem_any, sem_sum, sem_min, sem_max, sem_ixT, sem_ixL, sem_ixS, sem_repr, sem_slT, sem_slL, items_T, items_L, items_S, isi_int_int, isi_int_bool, isi_int_str, isi_int_tuple, isi_int_list, isi_int_dict, isi_bl_int, isi_bl_bool, isi_bl_str, isi_bl_tuple, isi_bl_list, isi_bl_dict, isi_str_int, isi_str_bool, isi_str_str, isi_str_tuple, isi_str_list, isi_str_dict, isi_tup_int, isi_tup_bool, isi_tup_str, isi_tup_tuple, isi_tup_list, isi_tup_dict, isi_lst_int, isi_lst_bool, isi_lst_str, isi_lst_tuple, isi_lst_list, isi_lst_dict, isi_non_int, isi_non_bool, isi_non_str, isi_non_tuple, isi_non_list, isi_non_dict, isi_dct_int, isi_dct_bool, isi_dct_str, isi_dct_tuple, isi_dct_list, isi_dct_dict])

/-! ## questions drawn -/
def pairK (p : Bool × Str) : NestedKey := .tup [.text (sortW p.1), .text p.2]
def prQ (q : Item) : Bool × Str := (q.1, q.2.1)
theorem sortW_inj {a b : Bool} (h : sortW a = sortW b) : a = b := by
  cases a <;> cases b <;> first | rfl | (exact absurd h (by decide +kernel))
theorem pairK_inj {a b : Bool × Str} (h : pairK a = pairK b) : a = b := by
  obtain ⟨a1, a2⟩ := a
  obtain ⟨b1, b2⟩ := b
  unfold pairK at h
  simp only [NestedKey.tup.injEq, List.cons.injEq, NestedKey.text.injEq, and_true] at h
  rw [sortW_inj h.1, h.2]
theorem keyT_pair (b : Bool) (t : Str) : keyT (.tup [.str (sortW b), .str t]) = some (pairK (b, t)) := rfl
theorem nk_pair (q : Item) : nkD (pairK (prQ q)) = pairQ q := by
  unfold pairK
  simp only [nkD, nkD.nkL]
  rfl
def foundK (its : List Item) : List (NestedKey × D) := its.map fun q => (pairK (prQ q), D.int q.2.2)
def setQ (its : List Item) (p : Bool × Str) (w : Int) : List Item :=
  if (its.any fun q => decide (prQ q = p)) = true then its.map (fun q => if prQ q = p then (p.1, p.2, w) else q) else its ++ [(p.1, p.2, w)]
theorem put_found (its : List Item) (p : Bool × Str) (w : Int) : putT (foundK its) (pairK p) (.int w) = foundK (setQ its p w) := by
  have e : ((foundK its).any fun kv => decide (kv.1 = pairK p)) = its.any fun q => decide (prQ q = p) := by
    unfold foundK
    rw [List.any_map]
    congr 1
    funext q
    simp only [Function.comp]
    congr 1
    exact propext ⟨pairK_inj, fun h => congrArg pairK h⟩
  unfold putT setQ
  rw [e]
  split
  · unfold foundK
    rw [List.map_map, List.map_map]
    refine List.map_congr_left fun q _ => ?_
    simp only [Function.comp]
    by_cases h : prQ q = p
    · rw [if_pos (congrArg pairK h), if_pos h, h]
      rfl
    · rw [if_neg fun z => h (pairK_inj z), if_neg h]
  · unfold foundK
    rw [List.map_append]
    rfl
structure OkIts (its : List Item) (k : Nat) : Prop where
  nd : (its.map prQ).Nodup
  nm : ∀ q ∈ its, okName q.2.1 = true
  wt : ∀ q ∈ its, q.2.2 ≠ 0 ∧ q.2.2.natAbs ≤ 1000000
  len : its.length ≤ k
theorem OkIts.set {its : List Item} {k : Nat} {p : Bool × Str} {w : Int} (h : OkIts its k) (hn : okName p.2 = true) (hw : w ≠ 0 ∧ w.natAbs ≤ 1000000) : OkIts (setQ its p w) (k + 1) := by
  unfold setQ
  split
  · have e : (its.map fun q => if prQ q = p then (p.1, p.2, w) else q).map prQ = its.map prQ := by
      rw [List.map_map]
      refine List.map_congr_left fun q _ => ?_
      simp only [Function.comp]
      split
      · rename_i h1
        rw [h1]
        rfl
      · rfl
    refine ⟨by rw [e]; exact h.nd, fun q hq => ?_, fun q hq => ?_, by rw [List.length_map]; have := h.len; omega⟩
    all_goals
      obtain ⟨r, hr, rfl⟩ := List.mem_map.mp hq
      split
      · assumption
    · exact h.nm r hr
    · exact h.wt r hr
  · rename_i h1
    refine ⟨?_, fun q hq => ?_, fun q hq => ?_, by rw [List.length_append]; have := h.len; simp; omega⟩
    · rw [List.map_append]
      refine List.nodup_append.mpr ⟨h.nd, by simp, fun a ha b hb e => ?_⟩
      simp at hb
      subst hb
      subst e
      obtain ⟨q, hq, e⟩ := List.mem_map.mp ha
      exact h1 (List.any_eq_true.mpr ⟨q, hq, decide_eq_true e⟩)
    · rcases List.mem_append.mp hq with hq | hq
      · exact h.nm q hq
      · simp at hq; subst hq; exact hn
    · rcases List.mem_append.mp hq with hq | hq
      · exact h.wt q hq
      · simp at hq; subst hq; exact hw
theorem setQ_len (its : List Item) (p : Bool × Str) (w : Int) : 1 ≤ (setQ its p w).length := by
  unfold setQ
  split
  · rename_i h
    rw [List.length_map]
    cases its with
    | nil => cases h
    | cons _ _ => simp
  · simp
/-! ### their order -/
theorem eqv_str (a b : Str) : PyData.eqv (.str a) (.str b) = (a == b) := by
  rw [PyData.eqv]
  try rfl
theorem al_str (a b : Str) : PySem.W.alike (.str a) (.str b) = true := by rw [PySem.W.alike]
theorem al_int (a b : Int) : PySem.W.alike (.int a) (.int b) = true := by rw [PySem.W.alike]
def ltP2 (a b : Bool × Str) : Bool := if sortW a.1 == sortW b.1 then ltB a.2 b.2 else ltB (sortW a.1) (sortW b.1)
theorem lt_pairQ (a b : Item) : PySem.W.dataLt (py (pairQ a)) (py (pairQ b)) = ltP2 (prQ a) (prQ b) := by
  unfold pairQ
  simp only [py, pyL]
  rw [PySem.W.dataLt_tuple]
  unfold ltP2 prQ
  cases h : (sortW a.1 == sortW b.1) with
  | true =>
    rw [PySem.W.dataLt_all_yes (al_str _ _) (by rw [eqv_str, h])]
    rw [if_pos rfl]
    cases h2 : (a.2.1 == b.2.1) with
    | true =>
      rw [PySem.W.dataLt_all_yes (al_str _ _) (by rw [eqv_str, h2]), eq_of_beq h2]
      rw [ltB_irr]
      exact PyProof.Rows.lex_irrefl _
    | false =>
      rw [PySem.W.dataLt_all_no (al_str _ _) (by rw [eqv_str, h2])]
      exact PySem.W.dataLt_str _ _
  | false =>
    rw [PySem.W.dataLt_all_no (al_str _ _) (by rw [eqv_str, h]), if_neg (by simp)]
    exact PySem.W.dataLt_str _ _
theorem lt_itemD {a b : Item} (hne : prQ a ≠ prQ b) : PySem.W.dataLt (py (itemD a)) (py (itemD b)) = ltP2 (prQ a) (prQ b) := by
  unfold itemD
  simp only [py, pyL]
  rw [PySem.W.dataLt_tuple]
  unfold ltP2 prQ
  cases h : (sortW a.1 == sortW b.1) with
  | true =>
    rw [PySem.W.dataLt_all_yes (al_str _ _) (by rw [eqv_str, h]), if_pos rfl]
    cases h2 : (a.2.1 == b.2.1) with
    | true =>
      refine absurd ?_ hne
      unfold prQ
      rw [sortW_inj (eq_of_beq h), eq_of_beq h2]
    | false =>
      rw [PySem.W.dataLt_all_no (al_str _ _) (by rw [eqv_str, h2])]
      exact PySem.W.dataLt_str _ _
  | false =>
    rw [PySem.W.dataLt_all_no (al_str _ _) (by rw [eqv_str, h]), if_neg (by simp)]
    exact PySem.W.dataLt_str _ _
theorem ltP2_total {a b : Bool × Str} (h : ltP2 b a = false) (hne : a ≠ b) : ltP2 a b = true := by
  obtain ⟨a1, a2⟩ := a
  obtain ⟨b1, b2⟩ := b
  unfold ltP2 at *
  dsimp only at *
  cases h1 : (sortW a1 == sortW b1) with
  | true =>
    rw [if_pos rfl]
    have e := eq_of_beq h1
    rw [e, beq_self_eq_true, if_pos rfl] at h
    refine lt_of_le h fun z => hne ?_
    rw [sortW_inj e, z]
  | false =>
    rw [if_neg (by simp)]
    have e : (sortW b1 == sortW a1) = false := by
      rw [beq_eq_false_iff_ne] at h1 ⊢
      exact fun z => h1 z.symm
    rw [e, if_neg (by simp)] at h
    refine lt_of_le h fun z => ?_
    rw [z, beq_self_eq_true] at h1
    cases h1
def leI (a b : Item) : Bool := leD (itemD a) (itemD b)
theorem itemD_sort (its : List Item) : sortD (its.map itemD) = (sortL leI its).map itemD := (sortL_map itemD (fun _ _ => rfl) its).symm
theorem sortOk_items (its : List Item) : sortOkD (its.map itemD) = true := by
  unfold sortOkD
  rw [Bool.and_eq_true, Bool.or_eq_true]
  refine ⟨List.all_eq_true.mpr fun d hd => ?_, .inl (List.all_eq_true.mpr fun d hd => ?_)⟩
  · obtain ⟨q, hq, rfl⟩ := List.mem_map.mp hd
    rw [Bool.and_eq_true, Bool.and_eq_true]
    refine ⟨⟨rfl, List.all_eq_true.mpr fun b hb => ?_⟩, ?_⟩
    · obtain ⟨r, hr, rfl⟩ := List.mem_map.mp hb
      unfold itemD
      simp only [py, pyL, PySem.W.alike, PySem.W.alikeAll, Bool.and_self]
    · unfold itemD
      simp only [py, pyL]
      rfl
  · obtain ⟨q, hq, rfl⟩ := List.mem_map.mp hd
    rfl
theorem okLt_pair (a b : Item) : okLt (pairQ a) (pairQ b) = true := by
  unfold okLt pairQ
  simp only [py, pyL, PySem.W.alike, PySem.W.alikeAll, Bool.and_self]
  rfl
theorem ltX_pair (a b : Item) : mLtX.f (pairQ a) (pairQ b) = some (.bl (ltP2 (prQ a) (prQ b))) := by
  show orElse_ none (when (okLt (pairQ a) (pairQ b)) (some (D.bl (PySem.W.dataLt (py (pairQ a)) (py (pairQ b)))))) = _
  rw [okLt_pair, lt_pairQ]
  rfl
theorem total_leI : PySem.W.TotalLe leI := (PySem.W.sortLe_total _ _ _ : PySem.W.TotalLe (PySem.W.dataLe false (fun q : Item => py (itemD q))))
theorem pw_zip {α : Type} {R : α → α → Prop} : ∀ {l : List α}, l.Pairwise R → ∀ p ∈ l.zip (l.drop 1), R p.1 p.2
  | [], _, p, hp => by cases hp
  | [x], _, p, hp => by cases hp
  | x :: y :: l, h, p, hp => by
    obtain ⟨h1, h2⟩ := List.pairwise_cons.mp h
    have e : (x :: y :: l).zip ((x :: y :: l).drop 1) = (x, y) :: (y :: l).zip ((y :: l).drop 1) := rfl
    rw [e] at hp
    rcases List.mem_cons.mp hp with rfl | hp
    · exact h1 y (by simp)
    · exact pw_zip h2 p hp
theorem asc_pairs {qs : List Item} (h : qs.Pairwise fun a b => ltP2 (prQ a) (prQ b) = true) (hl : qs.length ≤ 1000) : m_is_ascending [.lst (qs.map pairQ)] = some (.bl true) := by
  have ez : szOk (qs.zip (qs.drop 1)).length = true := szOk_of (by rw [List.length_zip]; omega)
  have e1 : zipD (qs.map pairQ) ((qs.drop 1).map pairQ) = (qs.zip (qs.drop 1)).map fun p => D.tpk [pairQ p.1, pairQ p.2] := by
    unfold zipD
    rw [List.zip_map, List.map_map]
    rfl
  have pz := pw_zip h
  rw [mE_is_ascending]
  unfold b_is_ascending
  walk_at "ev"
  rw [cut1, ← List.map_drop, e1, List.length_map, ez]
  rw [goLc_map (f := fun p => .bl true) fun c hc => by
    have e2 := ltX_pair c.1 c.2
    rw [pz c hc] at e2
    generalize pairQ c.1 = x at *
    generalize pairQ c.2 = y at *
    walk_at "evh"]
  walk_at "ev"
  rw [List.all_eq_true.mpr fun _ _ => rfl]
  try rfl
theorem OkIts.q {its : List Item} {k : Nat} (h : OkIts its k) (hk : k ≤ 1000) : OkQ (sortL leI its) := by
  have p := sortL_perm (le := leI) its
  refine ⟨fun q hq => h.nm q (p.mem_iff.mp hq), fun q hq => h.wt q (p.mem_iff.mp hq), by rw [p.length_eq]; have := h.len; omega, ?_⟩
  refine asc_pairs ?_ (by rw [p.length_eq]; have := h.len; omega)
  have nd : ((sortL leI its).map prQ).Nodup := (p.map prQ).nodup_iff.mpr h.nd
  have nd2 : (sortL leI its).Pairwise fun a b => prQ a ≠ prQ b := List.pairwise_map.mp nd
  refine (List.Pairwise.and (sortL_pw total_leI its) nd2).imp fun {a b} ⟨h1, h2⟩ => ?_
  refine ltP2_total ?_ h2
  rw [← lt_itemD fun z => h2 z.symm]
  unfold leI leD at h1
  simpa using h1
theorem val_found {its : List Item} (h : (its.map prQ).Nodup) {q : Item} (hq : q ∈ its) : valT (foundK its) (pairK (prQ q)) = some (.int q.2.2) := by
  unfold valT foundK
  induction its with
  | nil => cases hq
  | cons r l ih =>
    rw [List.map_cons] at h ⊢
    obtain ⟨h1, h2⟩ := List.nodup_cons.mp h
    rcases List.mem_cons.mp hq with rfl | hq
    · rw [List.find?_cons_of_pos (by simp)]
      rfl
    · have ne : ¬ (pairK (prQ r) = pairK (prQ q)) := fun z => h1 (by rw [pairK_inj z]; exact List.mem_map_of_mem hq)
      rw [List.find?_cons_of_neg (by simpa using ne)]
      exact ih h2 hq
theorem sum_q (its : List Item) : True := trivial
/-! ### a question drawn -/
def akE (p : D) (its : List Item) (names : List Str) (e2 e5 e6 e7 : E) : List E := [.pot, .d p, e2, .own (.dcT (foundK its)), .d (.lst (names.map .str)), e5, e6, e7]
theorem asked_ok {rs : List Row} {n : Nat} {Φ : D → Nat → Prop} (o : OkRows rs) (hn : n + 10 ≤ potMost) (q : ∀ qs m', OkQ qs → qs.length ≤ 3 → 1 ≤ qs.length → m' ≤ n + 10 → Φ (.tup (qs.map itemD)) m') : m_law_asked [.tup (rs.map Row.d)] n Φ := by
  refine ⟨rfl, ?_⟩
  show b_law_asked_0.wp n [.pot, .d (.tup (rs.map Row.d)), .any, .any, .any, .any, .any, .any] _
  have ol := o.len
  have ez : szOk rs.length = true := szOk_of (by omega)
  have g1 : goLc (gName_ 6) tYes_ (xOp2 mIx (xVar 6) (xInt 0)) [.pot, .d (.tup (rs.map Row.d)), .any, .any, .any, .any, .any, .any] (rs.map Row.d) = some (rs.map fun r => .str r.nm) := by
    rw [goLc_map (f := fun r => .str r.nm) fun r hr => by
      unfold Row.d
      walk_at "ev"]
  have main : b_law_asked_1.wp n (akE (.tup (rs.map Row.d)) [] (rs.map Row.nm) .any .any .any .any) { nx := fun _ m => Φ .non m, rt := Φ } := by
    unfold b_law_asked_1 akE
    walk_at "ev"
    refine take_ok (m := 3) (by decide) (by decide) (by omega) fun r hr => ?_
    have e1 : (1 + (r : Int)) = ((1 + r : Nat) : Int) := by omega
    refine ⟨_, sem_add _ _, ?_⟩
    rw [e1]
    refine ⟨_, rfl, sm62_of (by omega) (by omega), ?_⟩
    have hl : (rangeD 0 ((1 + r : Nat) : Int).toNat).length = 1 + r := by rw [Int.toNat_natCast, range_len]
    refine goForQ_all (fun k env => ∃ (its : List Item) (e2 e5 e6 e7 : E), OkIts its k ∧ (1 ≤ k → 1 ≤ its.length) ∧ env = akE (.tup (rs.map Row.d)) its (rs.map Row.nm) e2 e5 e6 e7) 3 (k := 0) (fun k d env m O' hd hR hm hO => ?_) ⟨[], _, _, _, _, ⟨by simp, by simp, by simp, by simp⟩, fun z => by omega, rfl⟩ (by rw [hl]; omega) fun env' m' hR hm' => ?_
    · obtain ⟨its, e2, e5, e6, e7, hI, _, rfl⟩ := hR
      rw [Nat.zero_add] at hI hO
      have hk : k < 1 + r := by have := (List.getElem?_eq_some_iff.mp hd).1; rw [hl] at this; exact this
      refine ⟨akE (.tup (rs.map Row.d)) its (rs.map Row.nm) (.d d) e5 e6 e7, rfl, ?_⟩
      unfold b_law_asked_1_0 akE
      walk_at "ev"
      have hne : rs ≠ [] := o.ne
      refine of_ok (by simpa using hne) (by rw [List.length_map, List.length_map]; omega) (by omega) fun y hy => ?_
      obtain ⟨y, hy1, rfl⟩ := List.mem_map.mp hy
      have hyn : okName y = true := by
        obtain ⟨r, hr, rfl⟩ := List.mem_map.mp hy1
        exact (okRow_of (o.row r hr)).nm
      unfold b_law_asked_1_1
      walk_at "ev"
      refine of_ok (by simp) (by simp) (by omega) fun w hw => ?_
      obtain ⟨b, t, rfl, ht⟩ : ∃ b t, w = .tup [.str (sortW b), .str t] ∧ okName t = true := by
        simp only [List.mem_cons, List.not_mem_nil, or_false] at hw
        rcases hw with rfl | rfl | rfl | rfl | rfl
        · exact ⟨false, "x", rfl, by decide +kernel⟩
        · exact ⟨false, "y", rfl, by decide +kernel⟩
        · exact ⟨false, "z", rfl, by decide +kernel⟩
        · exact ⟨false, "w", rfl, by decide +kernel⟩
        · exact ⟨true, y, rfl, hyn⟩
      unfold b_law_asked_1_2
      walk_at "ev"
      have hlen := hI.len
      have fl : (foundK its).length = its.length := by unfold foundK; rw [List.length_map]
      have kt := keyT_pair b t
      have ep : mPow.f (.int 10) (.int 6) = some (.int 1000000) := rfl
      refine ⟨_, rfl, decide_eq_true (by rw [fl]; omega), [.lst [.int 1, .int 1, .int (-1), .int 2, .int (-3), .int 1000000]], by rw [ep]; rfl, of_ok (by simp) (by simp) (by omega) fun w hw => ⟨_, kt, ?_⟩⟩
      obtain ⟨i, rfl, hi⟩ : ∃ i : Int, w = .int i ∧ (i ≠ 0 ∧ i.natAbs ≤ 1000000) := by
        simp only [List.mem_cons, List.not_mem_nil, or_false] at hw
        rcases hw with rfl | rfl | rfl | rfl | rfl | rfl <;> exact ⟨_, rfl, by decide, by decide⟩
      rw [put_found]
      refine hO _ _ ⟨setQ its (b, t) i, .d d, .d (.lst _), e6, .d (.tup _), hI.set ht hi, fun _ => setQ_len _ _ _, rfl⟩ (by omega)
    · obtain ⟨its, e2, e5, e6, e7, hI, hI1, rfl⟩ := hR
      rw [Nat.zero_add, hl] at hI hI1
      rw [hl] at hm'
      have hk : its.length ≤ 3 := by have := hI.len; omega
      have hq := q (sortL leI its) m' (hI.q (by omega)) (by rw [(sortL_perm (le := leI) its).length_eq]; exact hk) (by rw [(sortL_perm (le := leI) its).length_eq]; exact hI1 (by omega)) (by omega)
      have fl : (foundK its).length = its.length := by unfold foundK; rw [List.length_map]
      have ez2 : szOk its.length = true := szOk_of (by omega)
      have em : ((foundK its).map fun kv => nkD kv.1) = its.map pairQ := by
        unfold foundK
        rw [List.map_map]
        exact List.map_congr_left fun q _ => nk_pair q
      have es : mSorted.f [.lst (its.map itemD)] = some (.lst ((sortL leI its).map itemD)) := by
        show orElse_ (when (sortOkD (its.map itemD)) (some (D.lst (sortD (its.map itemD))))) _ = _
        rw [sortOk_items, itemD_sort]
        rfl
      have ed : ∀ kvs, dctT (.dcT kvs) = some kvs := fun _ => rfl
      have eg : ∀ e2 e5 e6 : E, goLc (gName_ 7) tYes_ (xOp2 mAdd (xVar 7) (xTup (aCons (xDGetT (xVar 3) (xVar 7)) aNil))) [.pot, .d (.tup (rs.map Row.d)), e2, .d (.dcT (foundK its)), .d (.lst ((rs.map Row.nm).map .str)), e5, e6, .any] (its.map pairQ) = some (its.map itemD) := by
        intro e2 e5 e6
        refine goLc_map fun p hp => ?_
        have v := val_found hI.nd hp
        have kt := keyT_pair p.1 p.2.1
        have ep : pairQ p = .tup [.str (sortW p.1), .str p.2.1] := rfl
        have ei : itemD p = .tup [.str (sortW p.1), .str p.2.1, .int p.2.2] := rfl
        have epr : prQ p = (p.1, p.2.1) := rfl
        rw [epr] at v
        rw [ep, ei]
        clear q hq es em hI hI1 hp ep ei epr o hm' hn hr ez g1
        generalize sortW p.1 = sw at *
        walk_at "evh"
        try rfl
      unfold akE b_law_asked_2
      clear q hI hI1 hm' hk hr hn o g1 ol hl e1
      walk_at "evh"
  unfold b_law_asked_0
  unfold akE at main
  have e9 : (rs.map Row.nm).map D.str = rs.map fun r => D.str r.nm := by rw [List.map_map]; rfl
  have e8 : foundK [] = [] := rfl
  rw [e9, e8] at main
  clear q o hn ol e9 e8
  walk_at "evh"
end FR
namespace FR
open PySem PySem.Spec PyProof.Rows L2
variable [TheW]
local macro_rules | `(tactic| walk_at "ev") => `(tactic| simp only [ev_xDNew, ev_xDispV, ev_xDispI, wp_qPar3, ev_xDGetT, ev_fDNewT, ev_sDPutT, wp_qDPutT, ev_xLcK, ev_xCallG, ev_poOpt, sem_ltX, sem_ltXS, ev_xVar, ev_xInt, ev_xStr, ev_xBl, ev_xTy, ev_xNon, ev_aNil, ev_aCons, ev_xTup, ev_xLst, ev_xOp2, ev_xUn, ev_xFn, ev_xCall, ev_tB_, ev_tTest_, ev_tYes_, ev_tNot_, ev_tAnd_, ev_tOr_, ev_xAnd, ev_xOr, ev_xNot, ev_xIf, ev_xChain, ev_poNone, ev_poSome, ev_gName_, ev_gNil_, ev_gCons_, ev_gTup_, ev_xLc, ev_sNext, ev_sSeq, ev_sDrop, ev_sRet, ev_sRetN, ev_sIf, ev_sAsg, ev_sBreak, ev_sCont, ev_sFor, ev_sWhile, ev_jSeq, ev_jRange1, ev_jRange2, ev_xSl, ev_xRevT, ev_jZip, ev_xPeek, ev_tPeek, ev_sNever, ev_sFz, ev_sOwn, ev_fLst, ev_fLc, ev_fListT, ev_sSetF, ev_sAppend, ev_sExtend, ev_sPar, ev_sAugI, ev_xLc2, ev_xFld, ev_xMeth, ev_xMake, ev_sFld_, ev_xDGet, ev_xDIn, ev_xDGet2, ev_xDc, ev_xValsKeys, ev_xLenSet, ev_xSortSet, ev_jZip3, ev_sParL, ev_sPar3, wp_qE, wp_qA, wp_qT, wp_qI, wp_qF, wp_qP, wp_qS, wp_qCons, wp_qTup, wp_qLst, wp_qOp2, wp_qUn, wp_qFn, wp_qCall, wp_qDraw, wp_qB, wp_qTest, wp_qNotT, wp_qAndT, wp_qOrT, wp_qAnd, wp_qOr, wp_qNot, wp_qIf, wp_qChain, wp_qPart, wp_qSeqI, wp_qRange1, wp_qRange2, wp_qLc, wp_qfLc, wp_qSeq, wp_qDrop, wp_qRet, wp_qIfS, wp_qAsg, wp_qFor, wp_qWhile, wp_qFz, wp_qSetF, wp_qAppend, wp_qExtend, wp_qPar, ev_jEnum1, ev_jEnum2, wp_qParM2, wp_qParM3, wp_qParMN, ev_sParM2, ev_sParM3, ev_sParMN, ev_fDNew, ev_fDict, wp_qfDict, wp_qfLst, ev_sDPut_, ev_fRep, ev_sIxPut, ev_jZipM, ev_xOrT, ev_xAndT, tru_lst, tru_tup, tru_non, tru_bl, List.getElem?_cons_zero, List.getElem?_cons_succ, List.set_cons_zero, List.set_cons_succ, List.map_cons, List.map_nil, List.length_cons, List.length_nil, List.length_map, Option.bind_some, Option.bind_none, atEnv_d, ownAt_o, blOf_b, inOf_i, lstOf_l, hide_d, hide_any, hide_own, hide_pot, frz_d, frz_any, frz_own, frz_pot, wipeE, when_t, when_f, end_rt, end_nx, Bool.not_true, Bool.not_false, lc1, Nat.zero_add, Nat.reduceAdd, Int.cast_ofNat_Int, beq_self_eq_true, Int.reduceBEq, Int.reduceLE, Int.reduceLT, decide_true, decide_false, Int.reduceNeg, Nat.reduceBEq, Bool.and_true, Bool.true_and, Bool.and_false, Bool.false_and, insOf_s, dctOf_d, keyOf_s, keyOf_i, unown, freeAt, ownAt_a, ownAt_dd, ownAt_p, blt_dec, Nat.reduceLT, Option.isNone_none, Option.isNone_some, fzAt, mpEv, parEnv, unowns, ex_some, ex_int, ex_two, ex_lst, at_nx, at_rt, isNon_i, isNon_s, isNon_n, true_and, and_true, nbeq, at0, at1, at2, sz0, sz1, sz2, sz3, sz4, sz5, sz6, sz7, sz8, bools_map, wholes_map, texts_map, all_id, any_id, sem_lt, sem_le, sem_gt, sem_ge, sem_ltS, sem_leS, sem_add, sem_addT, sem_addL, sem_sub, sem_mul, sem_mod, sem_div, sem_neg, sem_is, sem_isnt, sem_eqI, sem_neI, sem_eqS, sem_neS, sem_eqB, sem_lenT, sem_lenL, sem_lenS, sem_tupL, sem_tupT, sem_lstT, sem_lstL, sem_intI, sem_intB, sem_all, sem_any, sem_sum, sem_min, sem_max, sem_ixT, sem_ixL, sem_ixS, sem_repr, sem_slT, sem_slL, items_T, items_L, items_S, isi_int_int, isi_int_bool, isi_int_str, isi_int_tuple, isi_int_list, isi_int_dict, isi_bl_int, isi_bl_bool, isi_bl_str, isi_bl_tuple, isi_bl_list, isi_bl_dict, isi_str_int, isi_str_bool, isi_str_str, isi_str_tuple, isi_str_list, isi_str_dict, isi_tup_int, isi_tup_bool, isi_tup_str, isi_tup_tuple, isi_tup_list, isi_tup_dict, isi_lst_int, isi_lst_bool, isi_lst_str, isi_lst_tuple, isi_lst_list, isi_lst_dict, isi_non_int, isi_non_bool, isi_non_str, isi_non_tuple, isi_non_list, isi_non_dict, isi_dct_int, isi_dct_bool, isi_dct_str, isi_dct_tuple, isi_dct_list, isi_dct_dict])
local macro_rules | `(tactic| walk_at "evh") => `(tactic| simp only [*, ev_xDNew, ev_xDispV, ev_xDispI, wp_qPar3, ev_xDGetT, ev_fDNewT, ev_sDPutT, wp_qDPutT, ev_xLcK, ev_xCallG, ev_poOpt, sem_ltX, sem_ltXS, ev_xVar, ev_xInt, ev_xStr, ev_xBl, ev_xTy, ev_xNon, ev_aNil, ev_aCons, ev_xTup, ev_xLst, ev_xOp2, ev_xUn, ev_xFn, ev_xCall, ev_tB_, ev_tTest_, ev_tYes_, ev_tNot_, ev_tAnd_, ev_tOr_, ev_xAnd, ev_xOr, ev_xNot, ev_xIf, ev_xChain, ev_poNone, ev_poSome, ev_gName_, ev_gNil_, ev_gCons_, ev_gTup_, ev_xLc, ev_sNext, ev_sSeq, ev_sDrop, ev_sRet, ev_sRetN, ev_sIf, ev_sAsg, ev_sBreak, ev_sCont, ev_sFor, ev_sWhile, ev_jSeq, ev_jRange1, ev_jRange2, ev_xSl, ev_xRevT, ev_jZip, ev_xPeek, ev_tPeek, ev_sNever, ev_sFz, ev_sOwn, ev_fLst, ev_fLc, ev_fListT, ev_sSetF, ev_sAppend, ev_sExtend, ev_sPar, ev_sAugI, ev_xLc2, ev_xFld, ev_xMeth, ev_xMake, ev_sFld_, ev_xDGet, ev_xDIn, ev_xDGet2, ev_xDc, ev_xValsKeys, ev_xLenSet, ev_xSortSet, ev_jZip3, ev_sParL, ev_sPar3, wp_qE, wp_qA, wp_qT, wp_qI, wp_qF, wp_qP, wp_qS, wp_qCons, wp_qTup, wp_qLst, wp_qOp2, wp_qUn, wp_qFn, wp_qCall, wp_qDraw, wp_qB, wp_qTest, wp_qNotT, wp_qAndT, wp_qOrT, wp_qAnd, wp_qOr, wp_qNot, wp_qIf, wp_qChain, wp_qPart, wp_qSeqI, wp_qRange1, wp_qRange2, wp_qLc, wp_qfLc, wp_qSeq, wp_qDrop, wp_qRet, wp_qIfS, wp_qAsg, wp_qFor, wp_qWhile, wp_qFz, wp_qSetF, wp_qAppend, wp_qExtend, wp_qPar, ev_jEnum1, ev_jEnum2, wp_qParM2, wp_qParM3, wp_qParMN, ev_sParM2, ev_sParM3, ev_sParMN, ev_fDNew, ev_fDict, wp_qfDict, wp_qfLst, ev_sDPut_, ev_fRep, ev_sIxPut, ev_jZipM, ev_xOrT, ev_xAndT, tru_lst, tru_tup, tru_non, tru_bl, List.getElem?_cons_zero, List.getElem?_cons_succ, List.set_cons_zero, List.set_cons_succ, List.map_cons, List.map_nil, List.length_cons, List.length_nil, List.length_map, Option.bind_some, Option.bind_none, atEnv_d, ownAt_o, blOf_b, inOf_i, lstOf_l, hide_d, hide_any, hide_own, hide_pot, frz_d, frz_any, frz_own, frz_pot, wipeE, when_t, when_f, end_rt, end_nx, Bool.not_true, Bool.not_false, lc1, Nat.zero_add, Nat.reduceAdd, Int.cast_ofNat_Int, beq_self_eq_true, Int.reduceBEq, Int.reduceLE, Int.reduceLT, decide_true, decide_false, Int.reduceNeg, Nat.reduceBEq, Bool.and_true, Bool.true_and, Bool.and_false, Bool.false_and, insOf_s, dctOf_d, keyOf_s, keyOf_i, unown, freeAt, ownAt_a, ownAt_dd, ownAt_p, blt_dec, Nat.reduceLT, Option.isNone_none, Option.isNone_some, fzAt, mpEv, parEnv, unowns, ex_some, ex_int, ex_two, ex_lst, at_nx, at_rt, isNon_i, isNon_s, isNon_n, true_and, and_true, nbeq, at0, at1, at2, sz0, sz1, sz2, sz3, sz4, sz5, sz6, sz7, sz8, bools_map, wholes_map, texts_map, all_id, any_id, sem_lt, sem_le, sem_gt, sem_ge, sem_ltS, sem_leS, sem_add, sem_addT, sem_addL, sem_sub, sem_mul, sem_mod, sem_div, sem_neg, sem_is, sem_isnt, sem_eqI, sem_neI, sem_eqS, sem_neS, sem_eqB, sem_lenT, sem_lenL, sem_lenS, sem_tupL, sem_tupT, sem_lstT, sem_lstL, sem_intI, sem_intB, sem_all, sem_any, sem_sum, sem_min, sem_max, sem_ixT, sem_ixL, sem_ixS, sem_repr, sem_slT, sem_slL, items_T, items_L, items_S, isi_int_int, isi_int_bool, isi_int_str, isi_int_tuple, isi_int_list, isi_int_dict, isi_bl_int, isi_bl_bool, isi_bl_str, isi_bl_tuple, isi_bl_list, isi_bl_dict, isi_str_int, isi_str_bool, isi_str_str, isi_str_tuple, isi_str_list, isi_str_dict, isi_tup_int, isi_tup_bool, isi_tup_str, isi_tup_tuple, isi_tup_list, isi_tup_dict, isi_lst_int, isi_lst_bool, isi_lst_str, isi_lst_tuple, isi_lst_list, isi_lst_dict, isi_non_int, isi_non_bool, isi_non_str, isi_non_tuple, isi_non_list, isi_non_dict, isi_dct_int, isi_dct_bool, isi_dct_str, isi_dct_tuple, isi_dct_list, isi_dct_dict])

/-! ## values of any kind -/
def isS : D → Bool
  | .str _ => true
  | _ => false
def isT : D → Bool
  | .tup _ => true
  | _ => false
def isB : D → Bool
  | .bl _ => true
  | _ => false
/-- a whole number that is no truth -/
def isN : D → Bool
  | .int _ => true
  | _ => false
theorem isS_inv {d : D} (h : isS d = true) : ∃ x, d = .str x := by
  cases d <;> first | exact ⟨_, rfl⟩ | cases h
theorem isT_inv {d : D} (h : isT d = true) : ∃ x, d = .tup x := by
  cases d <;> first | exact ⟨_, rfl⟩ | cases h
theorem isB_inv {d : D} (h : isB d = true) : ∃ x, d = .bl x := by
  cases d <;> first | exact ⟨_, rfl⟩ | cases h
theorem isN_inv {d : D} (h : isN d = true) : ∃ x, d = .int x := by
  cases d <;> first | exact ⟨_, rfl⟩ | cases h
theorem isi_S {d : D} (h : fineD d = true) : mIsi.f [d, .ty "str"] = some (.bl (isS d)) := by
  cases d <;> first | rfl | exact absurd h (by simp [fineD])
theorem isi_T {d : D} (h : fineD d = true) : mIsi.f [d, .ty "tuple"] = some (.bl (isT d)) := by
  cases d <;> first | rfl | exact absurd h (by simp [fineD])
theorem isi_B {d : D} (h : fineD d = true) : mIsi.f [d, .ty "bool"] = some (.bl (isB d)) := by
  cases d <;> first | rfl | exact absurd h (by simp [fineD])
theorem isi_I {d : D} (h : fineD d = true) : mIsi.f [d, .ty "int"] = some (.bl (isN d || isB d)) := by
  cases d <;> first | rfl | exact absurd h (by simp [fineD])
theorem wtL_len : ∀ xs : List D, 2 * xs.length ≤ wtL xs
  | [] => Nat.le_refl _
  | x :: xs => by
    have := wtL_len xs
    rw [wtL, List.length_cons]
    omega
theorem wtL_mem {x : D} : ∀ {xs : List D}, x ∈ xs → wt x ≤ wtL xs
  | [], h => by cases h
  | y :: ys, h => by
    rw [wtL]
    rcases List.mem_cons.mp h with rfl | h
    · omega
    · have := wtL_mem h
      omega
theorem fineL_mem {x : D} : ∀ {xs : List D}, fineL xs = true → x ∈ xs → fineD x = true
  | [], _, h => by cases h
  | y :: ys, e, h => by
    rw [fineL, Bool.and_eq_true] at e
    rcases List.mem_cons.mp h with rfl | h
    · exact e.1
    · exact fineL_mem e.2 h
theorem dpL_mem {x : D} : ∀ {xs : List D}, x ∈ xs → dp x ≤ dpL xs
  | [], h => by cases h
  | y :: ys, h => by
    rw [dpL]
    rcases List.mem_cons.mp h with rfl | h
    · exact Nat.le_max_left _ _
    · exact Nat.le_trans (dpL_mem h) (Nat.le_max_right _ _)
theorem Lite.el {k w : Nat} {xs : List D} (h : Lite k w (.tup xs)) {x : D} (hx : x ∈ xs) : Lite k w x := by
  have h1 := h.fine
  have h2 := h.dp
  have h3 := h.wt
  rw [fineD] at h1
  rw [FR.dp] at h2
  rw [FR.wt] at h3
  have := dpL_mem hx
  have := wtL_mem hx
  exact ⟨fineL_mem h1 hx, by omega, by omega⟩
theorem Lite.len {k w : Nat} {xs : List D} (h : Lite k w (.tup xs)) : xs.length ≤ w := by
  have h3 := h.wt
  rw [FR.wt] at h3
  have := wtL_len xs
  omega
theorem Lite.slen {k w : Nat} {x : Str} (h : Lite k w (.str x)) : x.length ≤ w := by
  have h3 := h.wt
  rw [FR.wt] at h3
  omega
theorem Lite.sz {k w : Nat} {xs : List D} (h : Lite k w (.tup xs)) (hw : w ≤ 16000000) : szOk xs.length = true := szOk_of (by have := h.len; omega)
def nameB : D → Bool
  | .str x => okName x
  | _ => false
theorem nameB_inv {d : D} (h : nameB d = true) : ∃ x, d = .str x ∧ okName x = true := by
  cases d <;> first | exact ⟨_, rfl, h⟩ | cases h
theorem name_any {k w : Nat} {d : D} (h : Lite k w d) (hw : w ≤ 16000000) : m_is_name [d] = some (.bl (nameB d)) := by
  have e1 := isi_S h.fine
  cases hs : isS d with
  | false =>
    have en : nameB d = false := by cases d <;> first | rfl | cases hs
    rw [hs] at e1
    rw [mE_is_name, en]
    unfold b_is_name
    clear h hs en
    walk_at "evh"
  | true =>
    obtain ⟨x, rfl⟩ := isS_inv hs
    have l := h.slen
    by_cases hx : 1 ≤ x.length ∧ x.length ≤ 8
    · exact m_name_str hx.1 hx.2
    · have ez : szOk x.length = true := szOk_of (by omega)
      have en : nameB (.str x) = false := by
        show okName x = false
        cases ho : okName x with
        | false => rfl
        | true => exact absurd (okName_len ho) hx
      rw [mE_is_name, en]
      unfold b_is_name
      by_cases h1 : 1 ≤ x.length
      · have a1 : decide ((1 : Int) ≤ x.length) = true := decide_eq_true (by omega)
        have a2 : decide ((x.length : Int) ≤ 8) = false := decide_eq_false (by omega)
        clear h hs en e1 hx h1
        walk_at "evh"
      · have a1 : decide ((1 : Int) ≤ x.length) = false := decide_eq_false (by omega)
        clear h hs en e1 hx h1
        walk_at "evh"
theorem int_any {k w : Nat} {d : D} (h : Lite k w d) : m_is_integer [d] = some (.bl (isN d)) := by
  have e1 := isi_I h.fine
  have e2 := isi_B h.fine
  rw [mE_is_integer]
  unfold b_is_integer
  cases hn : isN d with
  | true =>
    obtain ⟨i, rfl⟩ := isN_inv hn
    rfl
  | false =>
    cases hb : isB d with
    | true =>
      rw [hn, hb] at e1
      rw [hb] at e2
      clear h hn hb
      walk_at "evh"
      try rfl
    | false =>
      rw [hn, hb] at e1
      rw [hb] at e2
      clear h hn hb
      walk_at "evh"
      try rfl
end FR
namespace FR
open PySem PySem.Spec PyProof.Rows L2
variable [TheW]
local macro_rules | `(tactic| walk_at "ev") => `(tactic| simp only [ev_xDNew, ev_xDispV, ev_xDispI, wp_qPar3, ev_xDGetT, ev_fDNewT, ev_sDPutT, wp_qDPutT, ev_xLcK, ev_xCallG, ev_poOpt, sem_ltX, sem_ltXS, ev_xVar, ev_xInt, ev_xStr, ev_xBl, ev_xTy, ev_xNon, ev_aNil, ev_aCons, ev_xTup, ev_xLst, ev_xOp2, ev_xUn, ev_xFn, ev_xCall, ev_tB_, ev_tTest_, ev_tYes_, ev_tNot_, ev_tAnd_, ev_tOr_, ev_xAnd, ev_xOr, ev_xNot, ev_xIf, ev_xChain, ev_poNone, ev_poSome, ev_gName_, ev_gNil_, ev_gCons_, ev_gTup_, ev_xLc, ev_sNext, ev_sSeq, ev_sDrop, ev_sRet, ev_sRetN, ev_sIf, ev_sAsg, ev_sBreak, ev_sCont, ev_sFor, ev_sWhile, ev_jSeq, ev_jRange1, ev_jRange2, ev_xSl, ev_xRevT, ev_jZip, ev_xPeek, ev_tPeek, ev_sNever, ev_sFz, ev_sOwn, ev_fLst, ev_fLc, ev_fListT, ev_sSetF, ev_sAppend, ev_sExtend, ev_sPar, ev_sAugI, ev_xLc2, ev_xFld, ev_xMeth, ev_xMake, ev_sFld_, ev_xDGet, ev_xDIn, ev_xDGet2, ev_xDc, ev_xValsKeys, ev_xLenSet, ev_xSortSet, ev_jZip3, ev_sParL, ev_sPar3, wp_qE, wp_qA, wp_qT, wp_qI, wp_qF, wp_qP, wp_qS, wp_qCons, wp_qTup, wp_qLst, wp_qOp2, wp_qUn, wp_qFn, wp_qCall, wp_qDraw, wp_qB, wp_qTest, wp_qNotT, wp_qAndT, wp_qOrT, wp_qAnd, wp_qOr, wp_qNot, wp_qIf, wp_qChain, wp_qPart, wp_qSeqI, wp_qRange1, wp_qRange2, wp_qLc, wp_qfLc, wp_qSeq, wp_qDrop, wp_qRet, wp_qIfS, wp_qAsg, wp_qFor, wp_qWhile, wp_qFz, wp_qSetF, wp_qAppend, wp_qExtend, wp_qPar, ev_jEnum1, ev_jEnum2, wp_qParM2, wp_qParM3, wp_qParMN, ev_sParM2, ev_sParM3, ev_sParMN, ev_fDNew, ev_fDict, wp_qfDict, wp_qfLst, ev_sDPut_, ev_fRep, ev_sIxPut, ev_jZipM, ev_xOrT, ev_xAndT, tru_lst, tru_tup, tru_non, tru_bl, List.getElem?_cons_zero, List.getElem?_cons_succ, List.set_cons_zero, List.set_cons_succ, List.map_cons, List.map_nil, List.length_cons, List.length_nil, List.length_map, Option.bind_some, Option.bind_none, atEnv_d, ownAt_o, blOf_b, inOf_i, lstOf_l, hide_d, hide_any, hide_own, hide_pot, frz_d, frz_any, frz_own, frz_pot, wipeE, when_t, when_f, end_rt, end_nx, Bool.not_true, Bool.not_false, lc1, Nat.zero_add, Nat.reduceAdd, Int.cast_ofNat_Int, beq_self_eq_true, Int.reduceBEq, Int.reduceLE, Int.reduceLT, decide_true, decide_false, Int.reduceNeg, Nat.reduceBEq, Bool.and_true, Bool.true_and, Bool.and_false, Bool.false_and, insOf_s, dctOf_d, keyOf_s, keyOf_i, unown, freeAt, ownAt_a, ownAt_dd, ownAt_p, blt_dec, Nat.reduceLT, Option.isNone_none, Option.isNone_some, fzAt, mpEv, parEnv, unowns, ex_some, ex_int, ex_two, ex_lst, at_nx, at_rt, isNon_i, isNon_s, isNon_n, true_and, and_true, nbeq, at0, at1, at2, sz0, sz1, sz2, sz3, sz4, sz5, sz6, sz7, sz8, bools_map, wholes_map, texts_map, all_id, any_id, sem_lt, sem_le, sem_gt, sem_ge, sem_ltS, sem_leS, sem_add, sem_addT, sem_addL, sem_sub, sem_mul, sem_mod, sem_div, sem_neg, sem_is, sem_isnt, sem_eqI, sem_neI, sem_eqS, sem_neS, sem_eqB, sem_lenT, sem_lenL, sem_lenS, sem_tupL, sem_tupT, sem_lstT, sem_lstL, sem_intI, sem_intB, sem_all, sem_any, sem_sum, sem_min, sem_max, sem_ixT, sem_ixL, sem_ixS, sem_repr, sem_slT, sem_slL, items_T, items_L, items_S, isi_int_int, isi_int_bool, isi_int_str, isi_int_tuple, isi_int_list, isi_int_dict, isi_bl_int, isi_bl_bool, isi_bl_str, isi_bl_tuple, isi_bl_list, isi_bl_dict, isi_str_int, isi_str_bool, isi_str_str, isi_str_tuple, isi_str_list, isi_str_dict, isi_tup_int, isi_tup_bool, isi_tup_str, isi_tup_tuple, isi_tup_list, isi_tup_dict, isi_lst_int, isi_lst_bool, isi_lst_str, isi_lst_tuple, isi_lst_list, isi_lst_dict, isi_non_int, isi_non_bool, isi_non_str, isi_non_tuple, isi_non_list, isi_non_dict, isi_dct_int, isi_dct_bool, isi_dct_str, isi_dct_tuple, isi_dct_list, isi_dct_dict])
local macro_rules | `(tactic| walk_at "evh") => `(tactic| simp only [*, ev_xDNew, ev_xDispV, ev_xDispI, wp_qPar3, ev_xDGetT, ev_fDNewT, ev_sDPutT, wp_qDPutT, ev_xLcK, ev_xCallG, ev_poOpt, sem_ltX, sem_ltXS, ev_xVar, ev_xInt, ev_xStr, ev_xBl, ev_xTy, ev_xNon, ev_aNil, ev_aCons, ev_xTup, ev_xLst, ev_xOp2, ev_xUn, ev_xFn, ev_xCall, ev_tB_, ev_tTest_, ev_tYes_, ev_tNot_, ev_tAnd_, ev_tOr_, ev_xAnd, ev_xOr, ev_xNot, ev_xIf, ev_xChain, ev_poNone, ev_poSome, ev_gName_, ev_gNil_, ev_gCons_, ev_gTup_, ev_xLc, ev_sNext, ev_sSeq, ev_sDrop, ev_sRet, ev_sRetN, ev_sIf, ev_sAsg, ev_sBreak, ev_sCont, ev_sFor, ev_sWhile, ev_jSeq, ev_jRange1, ev_jRange2, ev_xSl, ev_xRevT, ev_jZip, ev_xPeek, ev_tPeek, ev_sNever, ev_sFz, ev_sOwn, ev_fLst, ev_fLc, ev_fListT, ev_sSetF, ev_sAppend, ev_sExtend, ev_sPar, ev_sAugI, ev_xLc2, ev_xFld, ev_xMeth, ev_xMake, ev_sFld_, ev_xDGet, ev_xDIn, ev_xDGet2, ev_xDc, ev_xValsKeys, ev_xLenSet, ev_xSortSet, ev_jZip3, ev_sParL, ev_sPar3, wp_qE, wp_qA, wp_qT, wp_qI, wp_qF, wp_qP, wp_qS, wp_qCons, wp_qTup, wp_qLst, wp_qOp2, wp_qUn, wp_qFn, wp_qCall, wp_qDraw, wp_qB, wp_qTest, wp_qNotT, wp_qAndT, wp_qOrT, wp_qAnd, wp_qOr, wp_qNot, wp_qIf, wp_qChain, wp_qPart, wp_qSeqI, wp_qRange1, wp_qRange2, wp_qLc, wp_qfLc, wp_qSeq, wp_qDrop, wp_qRet, wp_qIfS, wp_qAsg, wp_qFor, wp_qWhile, wp_qFz, wp_qSetF, wp_qAppend, wp_qExtend, wp_qPar, ev_jEnum1, ev_jEnum2, wp_qParM2, wp_qParM3, wp_qParMN, ev_sParM2, ev_sParM3, ev_sParMN, ev_fDNew, ev_fDict, wp_qfDict, wp_qfLst, ev_sDPut_, ev_fRep, ev_sIxPut, ev_jZipM, ev_xOrT, ev_xAndT, tru_lst, tru_tup, tru_non, tru_bl, List.getElem?_cons_zero, List.getElem?_cons_succ, List.set_cons_zero, List.set_cons_succ, List.map_cons, List.map_nil, List.length_cons, List.length_nil, List.length_map, Option.bind_some, Option.bind_none, atEnv_d, ownAt_o, blOf_b, inOf_i, lstOf_l, hide_d, hide_any, hide_own, hide_pot, frz_d, frz_any, frz_own, frz_pot, wipeE, when_t, when_f, end_rt, end_nx, Bool.not_true, Bool.not_false, lc1, Nat.zero_add, Nat.reduceAdd, Int.cast_ofNat_Int, beq_self_eq_true, Int.reduceBEq, Int.reduceLE, Int.reduceLT, decide_true, decide_false, Int.reduceNeg, Nat.reduceBEq, Bool.and_true, Bool.true_and, Bool.and_false, Bool.false_and, insOf_s, dctOf_d, keyOf_s, keyOf_i, unown, freeAt, ownAt_a, ownAt_dd, ownAt_p, blt_dec, Nat.reduceLT, Option.isNone_none, Option.isNone_some, fzAt, mpEv, parEnv, unowns, ex_some, ex_int, ex_two, ex_lst, at_nx, at_rt, isNon_i, isNon_s, isNon_n, true_and, and_true, nbeq, at0, at1, at2, sz0, sz1, sz2, sz3, sz4, sz5, sz6, sz7, sz8, bools_map, wholes_map, texts_map, all_id, any_id, sem_lt, sem_le, sem_gt, sem_ge, sem_ltS, sem_leS, sem_add, sem_addT, sem_addL, sem_sub, sem_mul, sem_mod, sem_div, sem_neg, sem_is, sem_isnt, sem_eqI, sem_neI, sem_eqS, sem_neS, sem_eqB, sem_lenT, sem_lenL, sem_lenS, sem_tupL, sem_tupT, sem_lstT, sem_lstL, sem_intI, sem_intB, sem_all, sem_any, sem_sum, sem_min, sem_max, sem_ixT, sem_ixL, sem_ixS, sem_repr, sem_slT, sem_slL, items_T, items_L, items_S, isi_int_int, isi_int_bool, isi_int_str, isi_int_tuple, isi_int_list, isi_int_dict, isi_bl_int, isi_bl_bool, isi_bl_str, isi_bl_tuple, isi_bl_list, isi_bl_dict, isi_str_int, isi_str_bool, isi_str_str, isi_str_tuple, isi_str_list, isi_str_dict, isi_tup_int, isi_tup_bool, isi_tup_str, isi_tup_tuple, isi_tup_list, isi_tup_dict, isi_lst_int, isi_lst_bool, isi_lst_str, isi_lst_tuple, isi_lst_list, isi_lst_dict, isi_non_int, isi_non_bool, isi_non_str, isi_non_tuple, isi_non_list, isi_non_dict, isi_dct_int, isi_dct_bool, isi_dct_str, isi_dct_tuple, isi_dct_list, isi_dct_dict])

/-! ## questions of any value -/
theorem title_eq : m_law_is_title = m_is_name := id rfl
theorem title_any {k w : Nat} {d : D} (h : Lite k w d) (hw : w ≤ 16000000) : m_law_is_title [d] = some (.bl (nameB d)) := by
  rw [title_eq]
  exact name_any h hw
def wordB (s : Str) : Bool := (["kind", "step"] : List Str).elem s
def nzB : D → Bool
  | .int w => !(w == 0)
  | _ => false
def itemB : D → Bool
  | .tup [.str s, t, w] => wordB s && nameB t && nzB w
  | _ => false
theorem in2 (s : Str) : mIn.f (.str s) (.tup [.str "kind", .str "step"]) = some (.bl (wordB s)) := sem_inT s ["kind", "step"]
theorem nin2 (s : Str) : mNin.f (.str s) (.tup [.str "kind", .str "step"]) = some (.bl (!wordB s)) := sem_ninT s ["kind", "step"]
theorem item_any {k w : Nat} {d : D} (h : Lite k w d) (hw : w ≤ 16000000) : m_is_item [d] = some (.bl (itemB d)) ∧ m_law_is_item [d] = some (.bl (itemB d)) := by
  have e1 := isi_T h.fine
  cases ht : isT d with
  | false =>
    have en : itemB d = false := by cases d <;> first | rfl | cases ht
    rw [ht] at e1
    rw [mE_is_item, mE_law_is_item, en]
    unfold b_is_item b_law_is_item
    clear h ht en
    constructor <;> (walk_at "evh" <;> rfl)
  | true =>
    obtain ⟨xs, rfl⟩ := isT_inv ht
    rw [ht] at e1
    by_cases h3 : xs.length = 3
    · match xs, h3 with
      | [a, b, c], _ =>
        have la := h.el (x := a) (by simp)
        have lb := h.el (x := b) (by simp)
        have lc := h.el (x := c) (by simp)
        have ea := isi_S la.fine
        have eb := name_any lb hw
        have et := title_any lb hw
        have ec := int_any lc
        have ei := isi_I lc.fine
        have eo := isi_B lc.fine
        cases hs : isS a with
        | false =>
          have en : itemB (.tup [a, b, c]) = false := by cases a <;> first | rfl | cases hs
          rw [hs] at ea
          rw [mE_is_item, mE_law_is_item, en]
          unfold b_is_item b_law_is_item
          clear h ht en hs la lb lc
          constructor <;> (walk_at "evh" <;> rfl)
        | true =>
          obtain ⟨s, rfl⟩ := isS_inv hs
          have en : itemB (.tup [.str s, b, c]) = (wordB s && nameB b && nzB c) := rfl
          have nw := nin2 s
          clear ea
          have ea : mIsi.f [.str s, .ty "str"] = some (.bl true) := rfl
          rw [mE_is_item, mE_law_is_item, en]
          unfold b_is_item b_law_is_item
          cases h1 : wordB s with
          | false =>
            rw [h1] at nw
            clear h ht en hs la lb lc
            constructor <;> (walk_at "evh" <;> rfl)
          | true =>
            rw [h1] at nw
            cases h2 : nameB b with
            | false =>
              rw [h2] at eb et
              clear h ht en hs la lb lc
              constructor <;> (walk_at "evh" <;> rfl)
            | true =>
              rw [h2] at eb et
              cases hn : isN c with
              | true =>
                obtain ⟨i, rfl⟩ := isN_inv hn
                have ez : nzB (.int i) = !(i == 0) := rfl
                rw [hn] at ec ei
                clear h ht en hs la lb lc hn
                constructor <;> (walk_at "evh" <;> rfl)
              | false =>
                have ez : nzB c = false := by cases c <;> first | rfl | cases hn
                rw [hn] at ec ei
                cases hb : isB c with
                | true =>
                  rw [hb] at ei eo
                  clear h ht en hs la lb lc hn
                  constructor <;> (walk_at "evh" <;> rfl)
                | false =>
                  rw [hb] at ei eo
                  clear h ht en hs la lb lc hn
                  constructor <;> (walk_at "evh" <;> rfl)
    · have en : itemB (.tup xs) = false := by
        match xs, h3 with
        | [], _ => rfl
        | [a], _ => cases a <;> rfl
        | [a, b], _ => cases a <;> rfl
        | [a, b, c], h3 => exact absurd rfl h3
        | a :: b :: c :: d :: l, _ => cases a <;> rfl
      have el : ((xs.length : Int) == 3) = false := by rw [beq_eq_false_iff_ne]; omega
      rw [mE_is_item, mE_law_is_item, en]
      unfold b_is_item b_law_is_item
      clear h ht en h3
      constructor <;> (walk_at "evh" <;> rfl)
/-! ### whole questions -/
theorem goLc_self {g : Tgx} {t : Ts} {e : Ex} {env : List E} {f : D → D} {xs : List D} (h : ∀ x ∈ xs, lc1 g t e env x = some (some (f x))) : goLc g t e env xs = some (xs.map f) := by
  have := goLc_map (g := g) (t := t) (e := e) (env := env) (enc := id) (f := f) (xs := xs) h
  rw [List.map_id] at this
  exact this
def hd2 : D → D
  | .tup xs => .tup (xs.take 2)
  | d => d
theorem itemB_inv {d : D} (h : itemB d = true) : ∃ s t w, d = .tup [.str s, .str t, .int w] ∧ wordB s = true ∧ okName t = true ∧ w ≠ 0 := by
  match d, h with
  | .tup [.str s, t, w], h =>
    have h' : (wordB s && nameB t && nzB w) = true := h
    rw [Bool.and_eq_true, Bool.and_eq_true] at h'
    obtain ⟨⟨a, b⟩, c⟩ := h'
    obtain ⟨t, rfl, b⟩ := nameB_inv b
    cases w with
    | int w => exact ⟨s, t, w, rfl, a, b, by have c' : (!(w == 0)) = true := c; simpa using c'⟩
    | _ => cases c
theorem cut_two (xs : List D) : cutD xs none (some 2) = xs.take 2 := by
  unfold cutD
  rw [HT.sIx_none]
  have e : HT.sIx xs.length xs.length (some 2) = min 2 xs.length := rfl
  rw [e, List.drop_zero, Nat.sub_zero]
  by_cases h : 2 ≤ xs.length
  · rw [Nat.min_eq_left h]
  · rw [Nat.min_eq_right (by omega), List.take_of_length_le (by omega), List.take_of_length_le (by omega)]
def ltI (a b : D) : Bool := PySem.W.dataLt (py (hd2 a)) (py (hd2 b))
def questB : D → Bool
  | .tup xs => xs.all itemB && (xs.zip (xs.drop 1)).all fun p => ltI p.1 p.2
  | _ => false
theorem hd2_of {d : D} (h : itemB d = true) : ∃ s t : Str, hd2 d = .tup [.str s, .str t] ∧ mSl.f d none (some 2) = some (.tup [.str s, .str t]) := by
  obtain ⟨s, t, w, rfl, _⟩ := itemB_inv h
  exact ⟨s, t, rfl, rfl⟩
theorem ltX_two (a b c d : Str) : mLtX.f (.tup [.str a, .str b]) (.tup [.str c, .str d]) = some (.bl (PySem.W.dataLt (py (.tup [.str a, .str b])) (py (.tup [.str c, .str d])))) := by
  have ok : okLt (.tup [.str a, .str b]) (.tup [.str c, .str d]) = true := by
    unfold okLt
    simp only [py, pyL, PySem.W.alike, PySem.W.alikeAll, Bool.and_self]
    rfl
  show orElse_ none (when (okLt (.tup [.str a, .str b]) (.tup [.str c, .str d])) (some (D.bl _))) = _
  rw [ok]
  rfl
theorem lt_hd {a b : D} (ha : itemB a = true) (hb : itemB b = true) : ∃ x y, mSl.f a none (some 2) = some x ∧ mSl.f b none (some 2) = some y ∧ hd2 a = x ∧ hd2 b = y ∧ mLtX.f x y = some (.bl (ltI a b)) := by
  obtain ⟨s, t, e1, e2⟩ := hd2_of ha
  obtain ⟨s', t', e3, e4⟩ := hd2_of hb
  refine ⟨_, _, e2, e4, e1, e3, ?_⟩
  rw [ltX_two]
  unfold ltI
  rw [e1, e3]
theorem zip_memL {α : Type} {a b : α} {xs ys : List α} (h : (a, b) ∈ xs.zip ys) : a ∈ xs ∧ b ∈ ys := List.of_mem_zip h
theorem quest_any {k w : Nat} {d : D} (h : Lite k w d) (hw : w ≤ 16000000) : m_is_question [d] = some (.bl (questB d)) ∧ m_law_is_one [d] = some (.bl (questB d)) := by
  have e1 := isi_T h.fine
  cases ht : isT d with
  | false =>
    have en : questB d = false := by cases d <;> first | rfl | cases ht
    rw [ht] at e1
    rw [mE_is_question, mE_law_is_one, en]
    unfold b_is_question b_law_is_one
    clear h ht en
    constructor <;> (walk_at "evh" <;> rfl)
  | true =>
    obtain ⟨xs, rfl⟩ := isT_inv ht
    rw [ht] at e1
    have ez : szOk xs.length = true := h.sz hw
    have g1 : goLc (gName_ 1) tYes_ (xCall m_is_item (aCons (xVar 1) aNil)) [.d (.tup xs), .any] xs = some (xs.map fun x => .bl (itemB x)) := goLc_self fun x hx => by
      have e := (item_any (h.el hx) hw).1
      clear h hx e1
      walk_at "evh"
    have g2 : goLc (gName_ 1) tYes_ (xCall m_law_is_item (aCons (xVar 1) aNil)) [.d (.tup xs), .any, .any] xs = some (xs.map fun x => .bl (itemB x)) := goLc_self fun x hx => by
      have e := (item_any (h.el hx) hw).2
      clear h hx e1 g1
      walk_at "evh"
    have eq : questB (.tup xs) = (xs.all itemB && (xs.zip (xs.drop 1)).all fun p => ltI p.1 p.2) := rfl
    have ea : (xs.map itemB).all id = xs.all itemB := by rw [List.all_map]; rfl
    rw [mE_is_question, mE_law_is_one, eq]
    unfold b_is_question b_law_is_one
    cases hb : xs.all itemB with
    | false =>
      clear h ht eq
      constructor <;> (walk_at "evh" <;> rfl)
    | true =>
      have hi := List.all_eq_true.mp hb
      have ezz : szOk (xs.zip (xs.drop 1)).length = true := szOk_of (by rw [List.length_zip]; have := h.len; omega)
      have g3 : goLc (gName_ 1) tYes_ (xSl mSl (xVar 1) poNone (poSome (xInt 2))) [.d (.tup xs), .any] xs = some (xs.map hd2) := goLc_self fun x hx => by
        obtain ⟨s, t, e3, e4⟩ := hd2_of (hi x hx)
        clear h hx e1 g1 g2 hi hb
        walk_at "evh"
      have za : ∀ p ∈ xs.zip (xs.drop 1), itemB p.1 = true ∧ itemB p.2 = true := fun p hp => by
        obtain ⟨a, b⟩ := List.of_mem_zip hp
        exact ⟨hi _ a, hi _ (List.mem_of_mem_drop b)⟩
      have zl : ((xs.zip (xs.drop 1)).map fun p => ltI p.1 p.2).all id = (xs.zip (xs.drop 1)).all fun p => ltI p.1 p.2 := by rw [List.all_map]; rfl
      have asc : m_is_ascending [.lst (xs.map hd2)] = some (.bl ((xs.zip (xs.drop 1)).all fun p => ltI p.1 p.2)) := by
        have e2 : zipD (xs.map hd2) ((xs.drop 1).map hd2) = (xs.zip (xs.drop 1)).map fun p => D.tpk [hd2 p.1, hd2 p.2] := by
          unfold zipD
          rw [List.zip_map, List.map_map]
          rfl
        rw [mE_is_ascending]
        unfold b_is_ascending
        walk_at "ev"
        rw [cut1, ← List.map_drop, e2, List.length_map, ezz]
        rw [goLc_map (f := fun p => .bl (ltI p.1 p.2)) fun p hp => by
          obtain ⟨x, y, l1, l2, l3, l4, l5⟩ := lt_hd (za p hp).1 (za p hp).2
          rw [l3, l4]
          clear h e1 g1 g2 g3 hi hb za zl hp ea eq
          walk_at "evh"]
        walk_at "ev"
      have g4 : goLc (gTup_ 2 (gCons_ (gName_ 1) (gCons_ (gName_ 2) gNil_))) tYes_ (xOp2 mLtX (xSl mSl (xVar 1) poNone (poSome (xInt 2))) (xSl mSl (xVar 2) poNone (poSome (xInt 2)))) [.d (.tup xs), .any, .any] (zipD xs (xs.drop 1)) = some ((xs.zip (xs.drop 1)).map fun p => .bl (ltI p.1 p.2)) := by
        unfold zipD
        refine goLc_map fun p hp => ?_
        obtain ⟨x, y, l1, l2, l3, l4, l5⟩ := lt_hd (za p hp).1 (za p hp).2
        clear h e1 g1 g2 g3 hi hb za zl hp ea eq asc
        walk_at "evh"
      have ezz2 : szOk (zipD xs (xs.drop 1)).length = true := by unfold zipD; rw [List.length_map]; exact ezz
      have c1 := cut1 xs
      clear h ht eq hi za
      constructor <;> (walk_at "evh" <;> rfl)
end FR
namespace FR
open PySem PySem.Spec PyProof.Rows L2
variable [TheW]
local macro_rules | `(tactic| walk_at "ev") => `(tactic| simp only [ev_xDNew, ev_xDispV, ev_xDispI, wp_qPar3, ev_xDGetT, ev_fDNewT, ev_sDPutT, wp_qDPutT, ev_xLcK, ev_xCallG, ev_poOpt, sem_ltX, sem_ltXS, ev_xVar, ev_xInt, ev_xStr, ev_xBl, ev_xTy, ev_xNon, ev_aNil, ev_aCons, ev_xTup, ev_xLst, ev_xOp2, ev_xUn, ev_xFn, ev_xCall, ev_tB_, ev_tTest_, ev_tYes_, ev_tNot_, ev_tAnd_, ev_tOr_, ev_xAnd, ev_xOr, ev_xNot, ev_xIf, ev_xChain, ev_poNone, ev_poSome, ev_gName_, ev_gNil_, ev_gCons_, ev_gTup_, ev_xLc, ev_sNext, ev_sSeq, ev_sDrop, ev_sRet, ev_sRetN, ev_sIf, ev_sAsg, ev_sBreak, ev_sCont, ev_sFor, ev_sWhile, ev_jSeq, ev_jRange1, ev_jRange2, ev_xSl, ev_xRevT, ev_jZip, ev_xPeek, ev_tPeek, ev_sNever, ev_sFz, ev_sOwn, ev_fLst, ev_fLc, ev_fListT, ev_sSetF, ev_sAppend, ev_sExtend, ev_sPar, ev_sAugI, ev_xLc2, ev_xFld, ev_xMeth, ev_xMake, ev_sFld_, ev_xDGet, ev_xDIn, ev_xDGet2, ev_xDc, ev_xValsKeys, ev_xLenSet, ev_xSortSet, ev_jZip3, ev_sParL, ev_sPar3, wp_qE, wp_qA, wp_qT, wp_qI, wp_qF, wp_qP, wp_qS, wp_qCons, wp_qTup, wp_qLst, wp_qOp2, wp_qUn, wp_qFn, wp_qCall, wp_qDraw, wp_qB, wp_qTest, wp_qNotT, wp_qAndT, wp_qOrT, wp_qAnd, wp_qOr, wp_qNot, wp_qIf, wp_qChain, wp_qPart, wp_qSeqI, wp_qRange1, wp_qRange2, wp_qLc, wp_qfLc, wp_qSeq, wp_qDrop, wp_qRet, wp_qIfS, wp_qAsg, wp_qFor, wp_qWhile, wp_qFz, wp_qSetF, wp_qAppend, wp_qExtend, wp_qPar, ev_jEnum1, ev_jEnum2, wp_qParM2, wp_qParM3, wp_qParMN, ev_sParM2, ev_sParM3, ev_sParMN, ev_fDNew, ev_fDict, wp_qfDict, wp_qfLst, ev_sDPut_, ev_fRep, ev_sIxPut, ev_jZipM, ev_xOrT, ev_xAndT, tru_lst, tru_tup, tru_non, tru_bl, List.getElem?_cons_zero, List.getElem?_cons_succ, List.set_cons_zero, List.set_cons_succ, List.map_cons, List.map_nil, List.length_cons, List.length_nil, List.length_map, Option.bind_some, Option.bind_none, atEnv_d, ownAt_o, blOf_b, inOf_i, lstOf_l, hide_d, hide_any, hide_own, hide_pot, frz_d, frz_any, frz_own, frz_pot, wipeE, when_t, when_f, end_rt, end_nx, Bool.not_true, Bool.not_false, lc1, Nat.zero_add, Nat.reduceAdd, Int.cast_ofNat_Int, beq_self_eq_true, Int.reduceBEq, Int.reduceLE, Int.reduceLT, decide_true, decide_false, Int.reduceNeg, Nat.reduceBEq, Bool.and_true, Bool.true_and, Bool.and_false, Bool.false_and, insOf_s, dctOf_d, keyOf_s, keyOf_i, unown, freeAt, ownAt_a, ownAt_dd, ownAt_p, blt_dec, Nat.reduceLT, Option.isNone_none, Option.isNone_some, fzAt, mpEv, parEnv, unowns, ex_some, ex_int, ex_two, ex_lst, at_nx, at_rt, isNon_i, isNon_s, isNon_n, true_and, and_true, nbeq, at0, at1, at2, sz0, sz1, sz2, sz3, sz4, sz5, sz6, sz7, sz8, bools_map, wholes_map, texts_map, all_id, any_id, sem_lt, sem_le, sem_gt, sem_ge, sem_ltS, sem_leS, sem_add, sem_addT, sem_addL, sem_sub, sem_mul, sem_mod, sem_div, sem_neg, sem_is, sem_isnt, sem_eqI, sem_neI, sem_eqS, sem_neS, sem_eqB, sem_lenT, sem_lenL, sem_lenS, sem_tupL, sem_tupT, sem_lstT, sem_lstL, sem_intI, sem_intB, sem_all, sem_any, sem_sum, sem_min, sem_max, sem_ixT, sem_ixL, sem_ixS, sem_repr, sem_slT, sem_slL, items_T, items_L, items_S, isi_int_int, isi_int_bool, isi_int_str, isi_int_tuple, isi_int_list, isi_int_dict, isi_bl_int, isi_bl_bool, isi_bl_str, isi_bl_tuple, isi_bl_list, isi_bl_dict, isi_str_int, isi_str_bool, isi_str_str, isi_str_tuple, isi_str_list, isi_str_dict, isi_tup_int, isi_tup_bool, isi_tup_str, isi_tup_tuple, isi_tup_list, isi_tup_dict, isi_lst_int, isi_lst_bool, isi_lst_str, isi_lst_tuple, isi_lst_list, isi_lst_dict, isi_non_int, isi_non_bool, isi_non_str, isi_non_tuple, isi_non_list, isi_non_dict, isi_dct_int, isi_dct_bool, isi_dct_str, isi_dct_tuple, isi_dct_list, isi_dct_dict])
local macro_rules | `(tactic| walk_at "evh") => `(tactic| simp only [*, ev_xDNew, ev_xDispV, ev_xDispI, wp_qPar3, ev_xDGetT, ev_fDNewT, ev_sDPutT, wp_qDPutT, ev_xLcK, ev_xCallG, ev_poOpt, sem_ltX, sem_ltXS, ev_xVar, ev_xInt, ev_xStr, ev_xBl, ev_xTy, ev_xNon, ev_aNil, ev_aCons, ev_xTup, ev_xLst, ev_xOp2, ev_xUn, ev_xFn, ev_xCall, ev_tB_, ev_tTest_, ev_tYes_, ev_tNot_, ev_tAnd_, ev_tOr_, ev_xAnd, ev_xOr, ev_xNot, ev_xIf, ev_xChain, ev_poNone, ev_poSome, ev_gName_, ev_gNil_, ev_gCons_, ev_gTup_, ev_xLc, ev_sNext, ev_sSeq, ev_sDrop, ev_sRet, ev_sRetN, ev_sIf, ev_sAsg, ev_sBreak, ev_sCont, ev_sFor, ev_sWhile, ev_jSeq, ev_jRange1, ev_jRange2, ev_xSl, ev_xRevT, ev_jZip, ev_xPeek, ev_tPeek, ev_sNever, ev_sFz, ev_sOwn, ev_fLst, ev_fLc, ev_fListT, ev_sSetF, ev_sAppend, ev_sExtend, ev_sPar, ev_sAugI, ev_xLc2, ev_xFld, ev_xMeth, ev_xMake, ev_sFld_, ev_xDGet, ev_xDIn, ev_xDGet2, ev_xDc, ev_xValsKeys, ev_xLenSet, ev_xSortSet, ev_jZip3, ev_sParL, ev_sPar3, wp_qE, wp_qA, wp_qT, wp_qI, wp_qF, wp_qP, wp_qS, wp_qCons, wp_qTup, wp_qLst, wp_qOp2, wp_qUn, wp_qFn, wp_qCall, wp_qDraw, wp_qB, wp_qTest, wp_qNotT, wp_qAndT, wp_qOrT, wp_qAnd, wp_qOr, wp_qNot, wp_qIf, wp_qChain, wp_qPart, wp_qSeqI, wp_qRange1, wp_qRange2, wp_qLc, wp_qfLc, wp_qSeq, wp_qDrop, wp_qRet, wp_qIfS, wp_qAsg, wp_qFor, wp_qWhile, wp_qFz, wp_qSetF, wp_qAppend, wp_qExtend, wp_qPar, ev_jEnum1, ev_jEnum2, wp_qParM2, wp_qParM3, wp_qParMN, ev_sParM2, ev_sParM3, ev_sParMN, ev_fDNew, ev_fDict, wp_qfDict, wp_qfLst, ev_sDPut_, ev_fRep, ev_sIxPut, ev_jZipM, ev_xOrT, ev_xAndT, tru_lst, tru_tup, tru_non, tru_bl, List.getElem?_cons_zero, List.getElem?_cons_succ, List.set_cons_zero, List.set_cons_succ, List.map_cons, List.map_nil, List.length_cons, List.length_nil, List.length_map, Option.bind_some, Option.bind_none, atEnv_d, ownAt_o, blOf_b, inOf_i, lstOf_l, hide_d, hide_any, hide_own, hide_pot, frz_d, frz_any, frz_own, frz_pot, wipeE, when_t, when_f, end_rt, end_nx, Bool.not_true, Bool.not_false, lc1, Nat.zero_add, Nat.reduceAdd, Int.cast_ofNat_Int, beq_self_eq_true, Int.reduceBEq, Int.reduceLE, Int.reduceLT, decide_true, decide_false, Int.reduceNeg, Nat.reduceBEq, Bool.and_true, Bool.true_and, Bool.and_false, Bool.false_and, insOf_s, dctOf_d, keyOf_s, keyOf_i, unown, freeAt, ownAt_a, ownAt_dd, ownAt_p, blt_dec, Nat.reduceLT, Option.isNone_none, Option.isNone_some, fzAt, mpEv, parEnv, unowns, ex_some, ex_int, ex_two, ex_lst, at_nx, at_rt, isNon_i, isNon_s, isNon_n, true_and, and_true, nbeq, at0, at1, at2, sz0, sz1, sz2, sz3, sz4, sz5, sz6, sz7, sz8, bools_map, wholes_map, texts_map, all_id, any_id, sem_lt, sem_le, sem_gt, sem_ge, sem_ltS, sem_leS, sem_add, sem_addT, sem_addL, sem_sub, sem_mul, sem_mod, sem_div, sem_neg, sem_is, sem_isnt, sem_eqI, sem_neI, sem_eqS, sem_neS, sem_eqB, sem_lenT, sem_lenL, sem_lenS, sem_tupL, sem_tupT, sem_lstT, sem_lstL, sem_intI, sem_intB, sem_all, sem_any, sem_sum, sem_min, sem_max, sem_ixT, sem_ixL, sem_ixS, sem_repr, sem_slT, sem_slL, items_T, items_L, items_S, isi_int_int, isi_int_bool, isi_int_str, isi_int_tuple, isi_int_list, isi_int_dict, isi_bl_int, isi_bl_bool, isi_bl_str, isi_bl_tuple, isi_bl_list, isi_bl_dict, isi_str_int, isi_str_bool, isi_str_str, isi_str_tuple, isi_str_list, isi_str_dict, isi_tup_int, isi_tup_bool, isi_tup_str, isi_tup_tuple, isi_tup_list, isi_tup_dict, isi_lst_int, isi_lst_bool, isi_lst_str, isi_lst_tuple, isi_lst_list, isi_lst_dict, isi_non_int, isi_non_bool, isi_non_str, isi_non_tuple, isi_non_list, isi_non_dict, isi_dct_int, isi_dct_bool, isi_dct_str, isi_dct_tuple, isi_dct_list, isi_dct_dict])

/-! ## odd values -/
theorem lite_txt {x : Str} (h : (x.cps.toList.all fun c => decide (c < 0x110000)) = true) (hl : x.length ≤ 12) : Lite 0 130 (.str x) := by
  refine ⟨?_, Nat.le_refl _, ?_⟩
  · rw [fineD]
    unfold strFine
    exact h
  · rw [wt]
    omega
theorem lite_dct1 {k w : Nat} {x : D} (h : Lite k w x) : Lite (k + 1) (w + 30) (.dct [(.inr "a", x)]) := by
  have a := h.fine
  have b := h.dp
  have c := h.wt
  refine ⟨?_, ?_, ?_⟩
  · rw [fineD, fineK, fineK, a]
    decide +kernel
  · rw [FR.dp, dpK, dpK]
    omega
  · rw [FR.wt, wtK, wtK]
    have e : keyWt (.inr "a") = 12 := by decide +kernel
    rw [e]
    omega
theorem lite_one {k w : Nat} {x : D} (h : Lite k w x) : Lite (k + 1) (w + 6) (.tup [x]) := by
  have := lite_tup (xs := [x]) (k := k) (w := w) fun y hy => by simp at hy; subst hy; exact h
  exact this.mono (Nat.le_refl _) (by simp)
theorem lite_oneL {k w : Nat} {x : D} (h : Lite k w x) : Lite (k + 1) (w + 6) (.lst [x]) := by
  have := lite_lst (xs := [x]) (k := k) (w := w) fun y hy => by simp at hy; subst hy; exact h
  exact this.mono (Nat.le_refl _) (by simp)
theorem lite_two0 {k w : Nat} {x : D} (h : Lite k w x) : Lite (k + 1) (w + 60) (.tup [x, .int 0]) := by
  have a := h.fine
  have b := h.dp
  have c := h.wt
  refine ⟨?_, ?_, ?_⟩
  · rw [fineD, fineL, fineL, fineL, a]
    rfl
  · rw [FR.dp, dpL, dpL, dpL]
    show max _ (max 0 0) + 1 ≤ _
    omega
  · rw [FR.wt, wtL, wtL, wtL]
    show wt x + 2 + (40 + 2 + 0) + 4 ≤ _
    omega
theorem odd_ok {n : Nat} {Φ : D → Nat → Prop} (hn : n + 22 ≤ potMost) (q : ∀ d m', Lite 22 2400 d → (∀ xs, d = .tup xs → xs.length ≤ 2) → m' ≤ n + 22 → Φ d m') : m_law_odd [] n Φ := by
  refine ⟨rfl, ?_⟩
  show b_law_odd_0.wp n [.pot, .any, .any] _
  unfold b_law_odd_0
  walk_at "ev"
  have ep : mPow.f (.int 10) (.int 17) = some (.int 100000000000000000) := rfl
  rw [ep]
  refine ⟨_, rfl, of_ok (by simp) (by simp) (by omega) fun x hx => ?_⟩
  have hx2 : Lite 1 200 x ∧ ∀ xs, x = .tup xs → xs.length ≤ 2 := by
    simp only [List.mem_cons, List.not_mem_nil, or_false] at hx
    rcases hx with rfl | rfl | rfl | rfl | rfl | rfl | rfl | rfl | rfl | rfl | rfl | rfl | rfl | rfl | rfl | rfl <;>
      first
      | exact ⟨⟨by decide +kernel, by decide +kernel, by decide +kernel⟩, fun xs e => by cases e; simp⟩
      | exact ⟨⟨by decide +kernel, by decide +kernel, by decide +kernel⟩, fun xs e => by cases e⟩
  unfold b_law_odd_1
  walk_at "ev"
  refine of_ok (by simp) (by simp) (by omega) fun y hy => ?_
  obtain ⟨c, rfl, hc⟩ : ∃ c : Nat, y = .int c ∧ c ≤ 20 := by
    simp only [List.mem_cons, List.not_mem_nil, or_false] at hy
    rcases hy with rfl | rfl | rfl | rfl | rfl | rfl
    · exact ⟨0, rfl, by omega⟩
    · exact ⟨0, rfl, by omega⟩
    · exact ⟨0, rfl, by omega⟩
    · exact ⟨1, rfl, by omega⟩
    · exact ⟨2, rfl, by omega⟩
    · exact ⟨20, rfl, by omega⟩
  refine ⟨_, rfl, sm62_of (by omega) (by omega), ?_⟩
  have hl : (rangeD 0 ((c : Nat) : Int).toNat).length = c := by rw [Int.toNat_natCast, range_len]
  refine goForQ_all (fun k env => ∃ (d : D) (e2 : E), Lite (1 + k) (200 + 100 * k) d ∧ (∀ xs, d = .tup xs → xs.length ≤ 2) ∧ env = [.pot, .d d, e2]) 1 (k := 0) (fun k d env m O' hd hR hm hO => ?_) ⟨x, _, hx2.1, hx2.2, rfl⟩ (by rw [hl]; omega) fun env' m' hR hm' => ?_
  · obtain ⟨v, e2, hv, hv2, rfl⟩ := hR
    rw [Nat.zero_add] at hv hO
    refine ⟨[.pot, .d v, .d d], rfl, ?_⟩
    unfold b_law_odd_1_0
    walk_at "ev"
    refine of_ok (by simp) (by simp) (by omega) fun z hz => ?_
    refine hO _ _ ⟨z, .d d, ?_, ?_, rfl⟩ (by omega)
    · simp only [List.mem_cons, List.not_mem_nil, or_false] at hz
      rcases hz with rfl | rfl | rfl | rfl
      · exact (lite_one hv).mono (by omega) (by omega)
      · exact (lite_oneL hv).mono (by omega) (by omega)
      · exact (lite_dct1 hv).mono (by omega) (by omega)
      · exact (lite_two0 hv).mono (by omega) (by omega)
    · simp only [List.mem_cons, List.not_mem_nil, or_false] at hz
      rcases hz with rfl | rfl | rfl | rfl <;> first | (intro xs e; cases e; simp; done) | (intro xs e; cases e; done)
  · obtain ⟨v, e2, hv, hv2, rfl⟩ := hR
    rw [Nat.zero_add, hl] at hv
    rw [hl] at hm'
    have := q v m' (hv.mono (by omega) (by omega)) hv2 (by omega)
    unfold b_law_odd_2
    clear q hv hv2 hx hx2 hy hc hm' hn ep hl
    walk_at "evh"
end FR
namespace FR
open PySem PySem.Spec PyProof.Rows L2
variable [TheW]
local macro_rules | `(tactic| walk_at "ev") => `(tactic| simp only [ev_xDNew, ev_xDispV, ev_xDispI, wp_qPar3, ev_xDGetT, ev_fDNewT, ev_sDPutT, wp_qDPutT, ev_xLcK, ev_xCallG, ev_poOpt, sem_ltX, sem_ltXS, ev_xVar, ev_xInt, ev_xStr, ev_xBl, ev_xTy, ev_xNon, ev_aNil, ev_aCons, ev_xTup, ev_xLst, ev_xOp2, ev_xUn, ev_xFn, ev_xCall, ev_tB_, ev_tTest_, ev_tYes_, ev_tNot_, ev_tAnd_, ev_tOr_, ev_xAnd, ev_xOr, ev_xNot, ev_xIf, ev_xChain, ev_poNone, ev_poSome, ev_gName_, ev_gNil_, ev_gCons_, ev_gTup_, ev_xLc, ev_sNext, ev_sSeq, ev_sDrop, ev_sRet, ev_sRetN, ev_sIf, ev_sAsg, ev_sBreak, ev_sCont, ev_sFor, ev_sWhile, ev_jSeq, ev_jRange1, ev_jRange2, ev_xSl, ev_xRevT, ev_jZip, ev_xPeek, ev_tPeek, ev_sNever, ev_sFz, ev_sOwn, ev_fLst, ev_fLc, ev_fListT, ev_sSetF, ev_sAppend, ev_sExtend, ev_sPar, ev_sAugI, ev_xLc2, ev_xFld, ev_xMeth, ev_xMake, ev_sFld_, ev_xDGet, ev_xDIn, ev_xDGet2, ev_xDc, ev_xValsKeys, ev_xLenSet, ev_xSortSet, ev_jZip3, ev_sParL, ev_sPar3, wp_qE, wp_qA, wp_qT, wp_qI, wp_qF, wp_qP, wp_qS, wp_qCons, wp_qTup, wp_qLst, wp_qOp2, wp_qUn, wp_qFn, wp_qCall, wp_qDraw, wp_qB, wp_qTest, wp_qNotT, wp_qAndT, wp_qOrT, wp_qAnd, wp_qOr, wp_qNot, wp_qIf, wp_qChain, wp_qPart, wp_qSeqI, wp_qRange1, wp_qRange2, wp_qLc, wp_qfLc, wp_qSeq, wp_qDrop, wp_qRet, wp_qIfS, wp_qAsg, wp_qFor, wp_qWhile, wp_qFz, wp_qSetF, wp_qAppend, wp_qExtend, wp_qPar, ev_jEnum1, ev_jEnum2, wp_qParM2, wp_qParM3, wp_qParMN, ev_sParM2, ev_sParM3, ev_sParMN, ev_fDNew, ev_fDict, wp_qfDict, wp_qfLst, ev_sDPut_, ev_fRep, ev_sIxPut, ev_jZipM, ev_xOrT, ev_xAndT, tru_lst, tru_tup, tru_non, tru_bl, List.getElem?_cons_zero, List.getElem?_cons_succ, List.set_cons_zero, List.set_cons_succ, List.map_cons, List.map_nil, List.length_cons, List.length_nil, List.length_map, Option.bind_some, Option.bind_none, atEnv_d, ownAt_o, blOf_b, inOf_i, lstOf_l, hide_d, hide_any, hide_own, hide_pot, frz_d, frz_any, frz_own, frz_pot, wipeE, when_t, when_f, end_rt, end_nx, Bool.not_true, Bool.not_false, lc1, Nat.zero_add, Nat.reduceAdd, Int.cast_ofNat_Int, beq_self_eq_true, Int.reduceBEq, Int.reduceLE, Int.reduceLT, decide_true, decide_false, Int.reduceNeg, Nat.reduceBEq, Bool.and_true, Bool.true_and, Bool.and_false, Bool.false_and, insOf_s, dctOf_d, keyOf_s, keyOf_i, unown, freeAt, ownAt_a, ownAt_dd, ownAt_p, blt_dec, Nat.reduceLT, Option.isNone_none, Option.isNone_some, fzAt, mpEv, parEnv, unowns, ex_some, ex_int, ex_two, ex_lst, at_nx, at_rt, isNon_i, isNon_s, isNon_n, true_and, and_true, nbeq, at0, at1, at2, sz0, sz1, sz2, sz3, sz4, sz5, sz6, sz7, sz8, bools_map, wholes_map, texts_map, all_id, any_id, sem_lt, sem_le, sem_gt, sem_ge, sem_ltS, sem_leS, sem_add, sem_addT, sem_addL, sem_sub, sem_mul, sem_mod, sem_div, sem_neg, sem_is, sem_isnt, sem_eqI, sem_neI, sem_eqS, sem_neS, sem_eqB, sem_lenT, sem_lenL, sem_lenS, sem_tupL, sem_tupT, sem_lstT, sem_lstL, sem_intI, sem_intB, sem_all, sem_any, sem_sum, sem_min, sem_max, sem_ixT, sem_ixL, sem_ixS, sem_repr, sem_slT, sem_slL, items_T, items_L, items_S, isi_int_int, isi_int_bool, isi_int_str, isi_int_tuple, isi_int_list, isi_int_dict, isi_bl_int, isi_bl_bool, isi_bl_str, isi_bl_tuple, isi_bl_list, isi_bl_dict, isi_str_int, isi_str_bool, isi_str_str, isi_str_tuple, isi_str_list, isi_str_dict, isi_tup_int, isi_tup_bool, isi_tup_str, isi_tup_tuple, isi_tup_list, isi_tup_dict, isi_lst_int, isi_lst_bool, isi_lst_str, isi_lst_tuple, isi_lst_list, isi_lst_dict, isi_non_int, isi_non_bool, isi_non_str, isi_non_tuple, isi_non_list, isi_non_dict, isi_dct_int, isi_dct_bool, isi_dct_str, isi_dct_tuple, isi_dct_list, isi_dct_dict])
local macro_rules | `(tactic| walk_at "evh") => `(tactic| simp only [*, ev_xDNew, ev_xDispV, ev_xDispI, wp_qPar3, ev_xDGetT, ev_fDNewT, ev_sDPutT, wp_qDPutT, ev_xLcK, ev_xCallG, ev_poOpt, sem_ltX, sem_ltXS, ev_xVar, ev_xInt, ev_xStr, ev_xBl, ev_xTy, ev_xNon, ev_aNil, ev_aCons, ev_xTup, ev_xLst, ev_xOp2, ev_xUn, ev_xFn, ev_xCall, ev_tB_, ev_tTest_, ev_tYes_, ev_tNot_, ev_tAnd_, ev_tOr_, ev_xAnd, ev_xOr, ev_xNot, ev_xIf, ev_xChain, ev_poNone, ev_poSome, ev_gName_, ev_gNil_, ev_gCons_, ev_gTup_, ev_xLc, ev_sNext, ev_sSeq, ev_sDrop, ev_sRet, ev_sRetN, ev_sIf, ev_sAsg, ev_sBreak, ev_sCont, ev_sFor, ev_sWhile, ev_jSeq, ev_jRange1, ev_jRange2, ev_xSl, ev_xRevT, ev_jZip, ev_xPeek, ev_tPeek, ev_sNever, ev_sFz, ev_sOwn, ev_fLst, ev_fLc, ev_fListT, ev_sSetF, ev_sAppend, ev_sExtend, ev_sPar, ev_sAugI, ev_xLc2, ev_xFld, ev_xMeth, ev_xMake, ev_sFld_, ev_xDGet, ev_xDIn, ev_xDGet2, ev_xDc, ev_xValsKeys, ev_xLenSet, ev_xSortSet, ev_jZip3, ev_sParL, ev_sPar3, wp_qE, wp_qA, wp_qT, wp_qI, wp_qF, wp_qP, wp_qS, wp_qCons, wp_qTup, wp_qLst, wp_qOp2, wp_qUn, wp_qFn, wp_qCall, wp_qDraw, wp_qB, wp_qTest, wp_qNotT, wp_qAndT, wp_qOrT, wp_qAnd, wp_qOr, wp_qNot, wp_qIf, wp_qChain, wp_qPart, wp_qSeqI, wp_qRange1, wp_qRange2, wp_qLc, wp_qfLc, wp_qSeq, wp_qDrop, wp_qRet, wp_qIfS, wp_qAsg, wp_qFor, wp_qWhile, wp_qFz, wp_qSetF, wp_qAppend, wp_qExtend, wp_qPar, ev_jEnum1, ev_jEnum2, wp_qParM2, wp_qParM3, wp_qParMN, ev_sParM2, ev_sParM3, ev_sParMN, ev_fDNew, ev_fDict, wp_qfDict, wp_qfLst, ev_sDPut_, ev_fRep, ev_sIxPut, ev_jZipM, ev_xOrT, ev_xAndT, tru_lst, tru_tup, tru_non, tru_bl, List.getElem?_cons_zero, List.getElem?_cons_succ, List.set_cons_zero, List.set_cons_succ, List.map_cons, List.map_nil, List.length_cons, List.length_nil, List.length_map, Option.bind_some, Option.bind_none, atEnv_d, ownAt_o, blOf_b, inOf_i, lstOf_l, hide_d, hide_any, hide_own, hide_pot, frz_d, frz_any, frz_own, frz_pot, wipeE, when_t, when_f, end_rt, end_nx, Bool.not_true, Bool.not_false, lc1, Nat.zero_add, Nat.reduceAdd, Int.cast_ofNat_Int, beq_self_eq_true, Int.reduceBEq, Int.reduceLE, Int.reduceLT, decide_true, decide_false, Int.reduceNeg, Nat.reduceBEq, Bool.and_true, Bool.true_and, Bool.and_false, Bool.false_and, insOf_s, dctOf_d, keyOf_s, keyOf_i, unown, freeAt, ownAt_a, ownAt_dd, ownAt_p, blt_dec, Nat.reduceLT, Option.isNone_none, Option.isNone_some, fzAt, mpEv, parEnv, unowns, ex_some, ex_int, ex_two, ex_lst, at_nx, at_rt, isNon_i, isNon_s, isNon_n, true_and, and_true, nbeq, at0, at1, at2, sz0, sz1, sz2, sz3, sz4, sz5, sz6, sz7, sz8, bools_map, wholes_map, texts_map, all_id, any_id, sem_lt, sem_le, sem_gt, sem_ge, sem_ltS, sem_leS, sem_add, sem_addT, sem_addL, sem_sub, sem_mul, sem_mod, sem_div, sem_neg, sem_is, sem_isnt, sem_eqI, sem_neI, sem_eqS, sem_neS, sem_eqB, sem_lenT, sem_lenL, sem_lenS, sem_tupL, sem_tupT, sem_lstT, sem_lstL, sem_intI, sem_intB, sem_all, sem_any, sem_sum, sem_min, sem_max, sem_ixT, sem_ixL, sem_ixS, sem_repr, sem_slT, sem_slL, items_T, items_L, items_S, isi_int_int, isi_int_bool, isi_int_str, isi_int_tuple, isi_int_list, isi_int_dict, isi_bl_int, isi_bl_bool, isi_bl_str, isi_bl_tuple, isi_bl_list, isi_bl_dict, isi_str_int, isi_str_bool, isi_str_str, isi_str_tuple, isi_str_list, isi_str_dict, isi_tup_int, isi_tup_bool, isi_tup_str, isi_tup_tuple, isi_tup_list, isi_tup_dict, isi_lst_int, isi_lst_bool, isi_lst_str, isi_lst_tuple, isi_lst_list, isi_lst_dict, isi_non_int, isi_non_bool, isi_non_str, isi_non_tuple, isi_non_list, isi_non_dict, isi_dct_int, isi_dct_bool, isi_dct_str, isi_dct_tuple, isi_dct_list, isi_dct_dict])

/-! ## questions with something otherwise -/
theorem lite_ok {d : D} (h : itemB d = true) (hf : fineD d = true) : Lite 1 300 d := by
  obtain ⟨s, t, w, rfl, hs, ht, hw⟩ := itemB_inv h
  rw [fineD, fineL, fineL, fineL, fineL, Bool.and_eq_true, Bool.and_eq_true, Bool.and_eq_true] at hf
  have hs2 : okName s = true := by
    simp only [wordB, List.elem_eq_mem, decide_eq_true_eq, List.mem_cons, List.not_mem_nil, or_false] at hs
    rcases hs with rfl | rfl <;> decide +kernel
  refine (lite_tup (k := 0) (w := 82) fun x hx => ?_).mono (by decide) (by simp)
  simp only [List.mem_cons, List.not_mem_nil, or_false] at hx
  rcases hx with rfl | rfl | rfl
  · exact lite_str hs2
  · exact lite_str ht
  · exact ⟨hf.2.2.1, Nat.le_refl _, by show 40 ≤ 82; decide⟩
theorem el_ok {d : D} (h : itemB d = true) (hf : fineD d = true) : ∃ s t w, d = .tup [.str s, .str t, .int w] ∧ Lite 0 82 (.str s) ∧ Lite 0 82 (.str t) ∧ Lite 0 82 (.int w) := by
  obtain ⟨s, t, w, rfl, hs, ht, hw⟩ := itemB_inv h
  rw [fineD, fineL, fineL, fineL, fineL, Bool.and_eq_true, Bool.and_eq_true, Bool.and_eq_true] at hf
  have hs2 : okName s = true := by
    simp only [wordB, List.elem_eq_mem, decide_eq_true_eq, List.mem_cons, List.not_mem_nil, or_false] at hs
    rcases hs with rfl | rfl <;> decide +kernel
  exact ⟨s, t, w, rfl, lite_str hs2, lite_str ht, ⟨hf.2.2.1, Nat.le_refl _, by show 40 ≤ 82; decide⟩⟩
/-- a bent thing: not deep, not heavy, not long -/
structure Bent (L : Nat) (d : D) : Prop where
  lite : Lite 25 120000 d
  len : ∀ xs, d = .tup xs → xs.length ≤ L
theorem bent_tup {L : Nat} {xs : List D} (h : ∀ x ∈ xs, Lite 23 9700 x) (hl : xs.length ≤ L) (h10 : L ≤ 12) : Bent L (.tup xs) :=
  ⟨(lite_tup h).mono (by decide) (by omega), fun ys e => by cases e; exact hl⟩
theorem bent_lst {L : Nat} {xs : List D} (h : ∀ x ∈ xs, Lite 23 9700 x) (hl : xs.length ≤ 12) : Bent L (.lst xs) :=
  ⟨(lite_lst h).mono (by decide) (by omega), fun ys e => by cases e⟩
theorem item_lite {xs : List D} (h : ∀ x ∈ xs, Lite 22 2400 x) (hl : xs.length ≤ 4) : Lite 23 9700 (.tup xs) := (lite_tup h).mono (by decide) (by omega)
local macro_rules | `(tactic| walk_at "bw") => `(tactic| simp only [*, ev_sAsg, ev_xOp2, ev_xUn, ev_xFn, ev_xRevT, ev_xLst, ev_xTup, ev_aCons, ev_aNil, ev_xSl, ev_xVar, ev_poNone, ev_poSome, ev_xInt, ev_gName_, List.getElem?_cons_zero, List.getElem?_cons_succ, atEnv_d, inOf_i, Option.bind_some, sem_slT, sem_add, sem_neg, sem_lstT, List.length_cons, List.length_nil, Nat.zero_add, Nat.reduceAdd, sz0, sz1, sz2, sz3, sz4, sz5, sz6, when_t, List.set_cons_succ, List.set_cons_zero])
theorem bent_ok {xs : List D} {L n : Nat} {Φ : D → Nat → Prop} (h1 : 1 ≤ xs.length) (hl : xs.length ≤ L) (hL : L ≤ 10) (hi : ∀ x ∈ xs, itemB x = true ∧ fineD x = true) (hn : n + 27 ≤ potMost) (q : ∀ d m', Bent (L + 2) d → m' ≤ n + 27 → Φ d m') : m_law_bent [.tup xs] n Φ := by
  refine ⟨rfl, ?_⟩
  show b_law_bent_0.wp n [.pot, .d (.tup xs), .any, .any, .any, .any, .any, .any] _
  unfold b_law_bent_0
  walk_at "ev"
  refine take_ok (by omega) (by omega) (by omega) fun r hr => ?_
  refine odd_ok (by omega) fun od m1 ho ho2 hm1 => ?_
  unfold b_law_bent_1
  walk_at "ev"
  rw [at_nat _ _ hr]
  refine ⟨_, rfl, ?_⟩
  refine take_ok (m := 3) (by decide) (by decide) (by omega) fun sp hsp => ?_
  unfold b_law_bent_2
  walk_at "ev"
  have ep : mPow.f (.int 10) (.int 17) = some (.int 100000000000000000) := rfl
  rw [ep]
  refine ⟨_, rfl, of_ok (by simp) (by simp) (by omega) fun pt hpt => ?_⟩
  have lpt : Lite 22 2400 pt := by
    simp only [List.mem_cons, List.not_mem_nil, or_false] at hpt
    rcases hpt with rfl | rfl | rfl | rfl | rfl | rfl | rfl | rfl | rfl | rfl | rfl | rfl | rfl <;>
      first
      | exact ho
      | exact ⟨by decide +kernel, by decide +kernel, by decide +kernel⟩
  obtain ⟨s, t, w, ei, ls, lt, lw⟩ := el_ok (hi _ (List.getElem_mem hr)).1 (hi _ (List.getElem_mem hr)).2
  have el : ∀ x ∈ xs, Lite 23 9700 x := fun x hx => (lite_ok (hi x hx).1 (hi x hx).2).mono (by decide) (by decide)
  have ls' := ls.mono (k' := 22) (w' := 2400) (by decide) (by decide)
  have lt' := lt.mono (k' := 22) (w' := 2400) (by decide) (by decide)
  have lw' := lw.mono (k' := 22) (w' := 2400) (by decide) (by decide)
  rw [ei]
  have eN : ∃ N P1 P2 : List D, (∀ x ∈ N, Lite 22 2400 x) ∧ N.length ≤ 4 ∧ cutD [.str s, .str t, .int w] none (some (sp : Int)) = P1 ∧ cutD [.str s, .str t, .int w] (some ((sp : Int) + 1)) none = P2 ∧ mAdd.f (.tup P1) (.tup [pt]) = some (.tup (P1 ++ [pt])) ∧ mAdd.f (.tup (P1 ++ [pt])) (.tup P2) = some (.tup N) := by
    match sp, hsp with
    | 0, _ => exact ⟨[pt, .str t, .int w], [], [.str t, .int w], by simp [lpt, lt', lw'], by simp, rfl, rfl, rfl, rfl⟩
    | 1, _ => exact ⟨[.str s, pt, .int w], [.str s], [.int w], by simp [lpt, ls', lw'], by simp, rfl, rfl, rfl, rfl⟩
    | 2, _ => exact ⟨[.str s, .str t, pt], [.str s, .str t], [], by simp [lpt, ls', lt'], by simp, rfl, rfl, rfl, rfl⟩
    | k + 3, h => omega
  obtain ⟨N, P1, P2, nl, nn, p1, p2, q1, q2⟩ := eN
  have lN := item_lite nl nn
  have fr : ((r : Int) + 1) = ((r + 1 : Nat) : Int) := by omega
  have c1 := cut_to xs r
  have c2 := cut_from xs (r + 1)
  rw [← fr] at c2
  clear fr
  have c3 := cut_last xs
  have la : (xs.take r).length ≤ L := by rw [List.length_take]; omega
  have lb : (xs.take r).length + (xs.drop (r + 1)).length + 1 ≤ L := by rw [List.length_take, List.length_drop]; omega
  have ma : ∀ x ∈ xs.take r, Lite 23 9700 x := fun x hx => el x (List.mem_of_mem_take hx)
  have mb : ∀ x ∈ xs.drop (r + 1), Lite 23 9700 x := fun x hx => el x (List.mem_of_mem_drop hx)
  have lc : xs.getLast?.toList.length ≤ 1 := by cases xs.getLast? <;> simp
  have mc : ∀ x ∈ xs.getLast?.toList, Lite 23 9700 x := fun x hx => el x (by
    cases e : xs.getLast? with
    | none => rw [e] at hx; cases hx
    | some y => rw [e] at hx; simp at hx; subst hx; exact List.mem_of_getLast? e)
  generalize xs.take r = A at *
  generalize xs.drop (r + 1) = B at *
  generalize xs.getLast?.toList = C at *
  have tt : ∀ P Q : List D, P.length ≤ 100 → Q.length ≤ 100 → mAdd.f (.tup P) (.tup Q) = some (.tup (P ++ Q)) := fun P Q hP hQ => by
    rw [sem_addT]
    exact when_of (szOk_of (by omega))
  have ll : ∀ P Q : List D, P.length ≤ 100 → Q.length ≤ 100 → mAdd.f (.lst P) (.lst Q) = some (.lst (P ++ Q)) := fun P Q hP hQ => by
    rw [sem_addL]
    exact when_of (szOk_of (by omega))
  have sl : ∀ (P : List D) (lo hi : Option Int), mSl.f (.tup P) lo hi = some (.tup (cutD P lo hi)) := fun _ _ _ => rfl
  have t1 : ∀ x : D, mAdd.f (.tup A) (.tup [x]) = some (.tup (A ++ [x])) := fun x => tt _ _ (by omega) (by simp)
  have t2 : ∀ x : D, mAdd.f (.tup (A ++ [x])) (.tup B) = some (.tup (A ++ [x] ++ B)) := fun x => tt _ _ (by simp; omega) (by omega)
  have t3 : mAdd.f (.tup A) (.tup B) = some (.tup (A ++ B)) := tt _ _ (by omega) (by omega)
  have t4 : ∀ x : D, mAdd.f (.tup xs) (.tup [x]) = some (.tup (xs ++ [x])) := fun x => tt _ _ (by omega) (by simp)
  have t5 : mAdd.f (.tup xs) (.tup C) = some (.tup (xs ++ C)) := tt _ _ (by omega) (by omega)
  have er : ∀ X : D, mRep.f (.lst [X]) (.int 4) = some (.lst [X, X, X, X]) := fun _ => rfl
  have t6 : mAdd.f (.tup [.str s, .str t, .int w]) (.tup [.int 1]) = some (.tup [.str s, .str t, .int w, .int 1]) := rfl
  have k2 : cutD [D.str s, .str t, .int w] none (some 2) = [.str s, .str t] := rfl
  have li : ∀ x ∈ [D.str s, .str t, .int w], Lite 22 2400 x := by simp [ls', lt', lw']
  have j1 : ∀ x : D, Lite 23 9700 x → Bent (L + 2) (.tup (A ++ [x] ++ B)) := fun x hx => bent_tup (fun y hy => by
    rw [List.mem_append, List.mem_append] at hy
    rcases hy with (hy | hy) | hy
    · exact ma y hy
    · simp at hy; subst hy; exact hx
    · exact mb y hy) (by simp; omega) (by omega)
  have od' := ho.mono (k' := 23) (w' := 9700) (by decide) (by decide)
  have oI : Lite 23 9700 (.tup [.str s, .str t, .int w]) := item_lite li (by simp)
  have oL : Lite 23 9700 (.lst [.str s, .str t, .int w]) := (lite_lst li).mono (by decide) (by simp)
  have o2 : Lite 23 9700 (.tup [.str s, .str t]) := item_lite (by simp [ls', lt']) (by simp)
  have o4 : Lite 23 9700 (.tup [.str s, .str t, .int w, .int 1]) := item_lite (by
    have l1 : Lite 22 2400 (.int 1) := (lite_int (i := 1) (by decide)).mono (by decide) (by decide)
    simp [ls', lt', lw', l1]) (by simp)
  have bx : ∀ C : List D, C.length ≤ 1 → (∀ x ∈ C, Lite 23 9700 x) → Bent (L + 2) (.tup (xs ++ C)) := fun C hC hc => bent_tup (fun y hy => by
    rw [List.mem_append] at hy
    rcases hy with hy | hy
    · exact el y hy
    · exact hc y hy) (by simp; omega) (by omega)
  have bo : Bent (L + 2) od := ⟨ho.mono (by decide) (by decide), fun ys e => by have := ho2 ys e; omega⟩
  have big : ∀ (Z : List D), Z.length = 4 → (∀ z ∈ Z, Bent (L + 2) z) → b_law_bent_4.wp (m1 + 1 + 1) [.pot, .d (.tup xs), .d pt, .d (.lst Z), .d (.int r), .d od, .d (.tup [.str s, .str t, .int w]), .d (.int sp)] { nx := fun x n => Φ D.non n, rt := Φ } := fun Z hZ hz => by
    have l4 : ∀ Y : List D, Y.length ≤ 100 → mAdd.f (.lst Z) (.lst Y) = some (.lst (Z ++ Y)) := fun Y hY => ll _ _ (by omega) hY
    have f4 : ∀ a b c d e f : D, mAdd.f (.lst Z) (.lst [a, b, c, d, e, f]) = some (.lst (Z ++ [a, b, c, d, e, f])) := fun a b c d e f => l4 _ (by simp)
    have st4 : (sAsg (xOp2 mAdd (xVar 3) (xLst (aCons (xRevT (xVar 1)) (aCons (xFn mList (aCons (xVar 1) aNil)) (aCons (xOp2 mAdd (xVar 1) (xSl mSl (xVar 1) (poSome (xUn mNeg (xInt 1))) poNone)) (aCons (xOp2 mAdd (xSl mSl (xVar 1) poNone (poSome (xVar 4))) (xSl mSl (xVar 1) (poSome (xOp2 mAdd (xVar 4) (xInt 1))) poNone)) (aCons (xOp2 mAdd (xVar 1) (xTup (aCons (xVar 5) aNil))) (aCons (xVar 5) aNil)))))))) (gName_ 3)).ev [.pot, .d (.tup xs), .d pt, .d (.lst Z), .d (.int r), .d od, .d (.tup [.str s, .str t, .int w]), .d (.int sp)] = some (.nx [.pot, .d (.tup xs), .d pt, .d (.lst (Z ++ [D.tup xs.reverse, .lst xs, .tup (xs ++ C), .tup (A ++ B), .tup (xs ++ [od]), od])), .d (.int r), .d od, .d (.tup [.str s, .str t, .int w]), .d (.int sp)]) := by
      clear ll l4 tt sl q hi el j1 bx
      walk_at "bw"
    have z4 : ∀ z ∈ Z ++ [D.tup xs.reverse, .lst xs, .tup (xs ++ C), .tup (A ++ B), .tup (xs ++ [od]), od], Bent (L + 2) z := fun z hy => by
      rcases List.mem_append.mp hy with hy | hy
      · exact hz z hy
      · simp only [List.mem_cons, List.not_mem_nil, or_false] at hy
        rcases hy with rfl | rfl | rfl | rfl | rfl | rfl
        · exact bent_tup (fun y hy => el y (List.mem_reverse.mp hy)) (by rw [List.length_reverse]; omega) (by omega)
        · exact bent_lst el (by omega)
        · exact bx C lc mc
        · exact bent_tup (fun y hy => by
            rcases List.mem_append.mp hy with hy | hy
            · exact ma y hy
            · exact mb y hy) (by rw [List.length_append]; omega) (by omega)
        · exact bx [od] (by simp) (by simp [od'])
        · exact bo
    have hZ4 : (Z ++ [D.tup xs.reverse, .lst xs, .tup (xs ++ C), .tup (A ++ B), .tup (xs ++ [od]), od]).length = 10 := by simp [hZ]
    generalize (Z ++ [D.tup xs.reverse, .lst xs, .tup (xs ++ C), .tup (A ++ B), .tup (xs ++ [od]), od]) = Z4 at st4 z4 hZ4
    have f5 : ∀ a b : D, mAdd.f (.lst Z4) (.lst [a, b]) = some (.lst (Z4 ++ [a, b])) := fun a b => ll _ _ (by omega) (by simp)
    have st5 : (sAsg (xOp2 mAdd (xVar 3) (xLst (aCons (xOp2 mAdd (xOp2 mAdd (xSl mSl (xVar 1) poNone (poSome (xVar 4))) (xTup (aCons (xFn mList (aCons (xVar 6) aNil)) aNil))) (xSl mSl (xVar 1) (poSome (xOp2 mAdd (xVar 4) (xInt 1))) poNone)) (aCons (xOp2 mAdd (xOp2 mAdd (xSl mSl (xVar 1) poNone (poSome (xVar 4))) (xTup (aCons (xSl mSl (xVar 6) poNone (poSome (xInt 2))) aNil))) (xSl mSl (xVar 1) (poSome (xOp2 mAdd (xVar 4) (xInt 1))) poNone)) aNil)))) (gName_ 3)).ev [.pot, .d (.tup xs), .d pt, .d (.lst Z4), .d (.int r), .d od, .d (.tup [.str s, .str t, .int w]), .d (.int sp)] = some (.nx [.pot, .d (.tup xs), .d pt, .d (.lst (Z4 ++ [D.tup (A ++ [.lst [.str s, .str t, .int w]] ++ B), .tup (A ++ [.tup [.str s, .str t]] ++ B)])), .d (.int r), .d od, .d (.tup [.str s, .str t, .int w]), .d (.int sp)]) := by
      clear ll l4 tt sl q hi el j1 bx st4 f4
      walk_at "bw"
    have z5 : ∀ z ∈ Z4 ++ [D.tup (A ++ [.lst [.str s, .str t, .int w]] ++ B), .tup (A ++ [.tup [.str s, .str t]] ++ B)], Bent (L + 2) z := fun z hy => by
      rcases List.mem_append.mp hy with hy | hy
      · exact z4 z hy
      · simp only [List.mem_cons, List.not_mem_nil, or_false] at hy
        rcases hy with rfl | rfl
        · exact j1 _ oL
        · exact j1 _ o2
    have hZ5 : (Z4 ++ [D.tup (A ++ [.lst [.str s, .str t, .int w]] ++ B), .tup (A ++ [.tup [.str s, .str t]] ++ B)]).length = 12 := by simp [hZ4]
    generalize (Z4 ++ [D.tup (A ++ [.lst [.str s, .str t, .int w]] ++ B), .tup (A ++ [.tup [.str s, .str t]] ++ B)]) = Z5 at st5 z5 hZ5
    have f6 : ∀ a b : D, mAdd.f (.lst Z5) (.lst [a, b]) = some (.lst (Z5 ++ [a, b])) := fun a b => ll _ _ (by omega) (by simp)
    unfold b_law_bent_4
    rw [wp_qSeq, wp_qS]
    refine ⟨_, st4, ?_⟩
    rw [at_nx]
    dsimp only
    unfold b_law_bent_5
    rw [wp_qSeq, wp_qS]
    refine ⟨_, st5, ?_⟩
    rw [at_nx]
    dsimp only
    unfold b_law_bent_6
    rw [wp_qRet, wp_qDraw]
    refine ⟨rfl, ?_⟩
    rw [wp_qA]
    refine ⟨[.lst (Z5 ++ [.tup xs, .tup (A ++ [.tup [.str s, .str t, .int w, .int 1]] ++ B)])], ?_, ?_⟩
    · clear ll l4 tt sl q hi el j1 bx st4 st5 f4 f5
      walk_at "bw"
    · refine of_ok (by simp) (by simp; omega) (by omega) fun z hy => q z _ ?_ (by omega)
      rcases List.mem_append.mp hy with hy | hy
      · exact z5 z hy
      · simp only [List.mem_cons, List.not_mem_nil, or_false] at hy
        rcases hy with rfl | rfl
        · have := bx [] (by simp) (by simp)
          rw [List.append_nil] at this
          exact this
        · exact j1 _ o4
  have st3 : (sAsg (xOp2 mRep (xLst (aCons (xOp2 mAdd (xOp2 mAdd (xSl mSl (xVar 1) poNone (poSome (xVar 4))) (xTup (aCons (xOp2 mAdd (xOp2 mAdd (xSl mSl (xVar 6) poNone (poSome (xVar 7))) (xTup (aCons (xVar 2) aNil))) (xSl mSl (xVar 6) (poSome (xOp2 mAdd (xVar 7) (xInt 1))) poNone)) aNil))) (xSl mSl (xVar 1) (poSome (xOp2 mAdd (xVar 4) (xInt 1))) poNone)) aNil)) (xInt 4)) (gName_ 3)).ev [.pot, .d (.tup xs), .d pt, .any, .d (.int r), .d od, .d (.tup [.str s, .str t, .int w]), .d (.int sp)] = some (.nx [.pot, .d (.tup xs), .d pt, .d (.lst [.tup (A ++ [.tup N] ++ B), .tup (A ++ [.tup N] ++ B), .tup (A ++ [.tup N] ++ B), .tup (A ++ [.tup N] ++ B)]), .d (.int r), .d od, .d (.tup [.str s, .str t, .int w]), .d (.int sp)]) := by
    clear ll tt sl q hi el big j1 bx
    walk_at "bw"
  unfold b_law_bent_3
  rw [wp_qSeq, wp_qS]
  refine ⟨_, st3, ?_⟩
  rw [at_nx]
  dsimp only
  refine big _ rfl fun z hz => ?_
  simp only [List.mem_cons, List.not_mem_nil, or_false, or_self] at hz
  subst hz
  exact j1 _ lN
end FR
namespace FR
open PySem PySem.Spec PyProof.Rows L2
variable [TheW]
local macro_rules | `(tactic| walk_at "ev") => `(tactic| simp only [ev_xDNew, ev_xDispV, ev_xDispI, wp_qPar3, ev_xDGetT, ev_fDNewT, ev_sDPutT, wp_qDPutT, ev_xLcK, ev_xCallG, ev_poOpt, sem_ltX, sem_ltXS, ev_xVar, ev_xInt, ev_xStr, ev_xBl, ev_xTy, ev_xNon, ev_aNil, ev_aCons, ev_xTup, ev_xLst, ev_xOp2, ev_xUn, ev_xFn, ev_xCall, ev_tB_, ev_tTest_, ev_tYes_, ev_tNot_, ev_tAnd_, ev_tOr_, ev_xAnd, ev_xOr, ev_xNot, ev_xIf, ev_xChain, ev_poNone, ev_poSome, ev_gName_, ev_gNil_, ev_gCons_, ev_gTup_, ev_xLc, ev_sNext, ev_sSeq, ev_sDrop, ev_sRet, ev_sRetN, ev_sIf, ev_sAsg, ev_sBreak, ev_sCont, ev_sFor, ev_sWhile, ev_jSeq, ev_jRange1, ev_jRange2, ev_xSl, ev_xRevT, ev_jZip, ev_xPeek, ev_tPeek, ev_sNever, ev_sFz, ev_sOwn, ev_fLst, ev_fLc, ev_fListT, ev_sSetF, ev_sAppend, ev_sExtend, ev_sPar, ev_sAugI, ev_xLc2, ev_xFld, ev_xMeth, ev_xMake, ev_sFld_, ev_xDGet, ev_xDIn, ev_xDGet2, ev_xDc, ev_xValsKeys, ev_xLenSet, ev_xSortSet, ev_jZip3, ev_sParL, ev_sPar3, wp_qE, wp_qA, wp_qT, wp_qI, wp_qF, wp_qP, wp_qS, wp_qCons, wp_qTup, wp_qLst, wp_qOp2, wp_qUn, wp_qFn, wp_qCall, wp_qDraw, wp_qB, wp_qTest, wp_qNotT, wp_qAndT, wp_qOrT, wp_qAnd, wp_qOr, wp_qNot, wp_qIf, wp_qChain, wp_qPart, wp_qSeqI, wp_qRange1, wp_qRange2, wp_qLc, wp_qfLc, wp_qSeq, wp_qDrop, wp_qRet, wp_qIfS, wp_qAsg, wp_qFor, wp_qWhile, wp_qFz, wp_qSetF, wp_qAppend, wp_qExtend, wp_qPar, ev_jEnum1, ev_jEnum2, wp_qParM2, wp_qParM3, wp_qParMN, ev_sParM2, ev_sParM3, ev_sParMN, ev_fDNew, ev_fDict, wp_qfDict, wp_qfLst, ev_sDPut_, ev_fRep, ev_sIxPut, ev_jZipM, ev_xOrT, ev_xAndT, tru_lst, tru_tup, tru_non, tru_bl, List.getElem?_cons_zero, List.getElem?_cons_succ, List.set_cons_zero, List.set_cons_succ, List.map_cons, List.map_nil, List.length_cons, List.length_nil, List.length_map, Option.bind_some, Option.bind_none, atEnv_d, ownAt_o, blOf_b, inOf_i, lstOf_l, hide_d, hide_any, hide_own, hide_pot, frz_d, frz_any, frz_own, frz_pot, wipeE, when_t, when_f, end_rt, end_nx, Bool.not_true, Bool.not_false, lc1, Nat.zero_add, Nat.reduceAdd, Int.cast_ofNat_Int, beq_self_eq_true, Int.reduceBEq, Int.reduceLE, Int.reduceLT, decide_true, decide_false, Int.reduceNeg, Nat.reduceBEq, Bool.and_true, Bool.true_and, Bool.and_false, Bool.false_and, insOf_s, dctOf_d, keyOf_s, keyOf_i, unown, freeAt, ownAt_a, ownAt_dd, ownAt_p, blt_dec, Nat.reduceLT, Option.isNone_none, Option.isNone_some, fzAt, mpEv, parEnv, unowns, ex_some, ex_int, ex_two, ex_lst, at_nx, at_rt, isNon_i, isNon_s, isNon_n, true_and, and_true, nbeq, at0, at1, at2, sz0, sz1, sz2, sz3, sz4, sz5, sz6, sz7, sz8, bools_map, wholes_map, texts_map, all_id, any_id, sem_lt, sem_le, sem_gt, sem_ge, sem_ltS, sem_leS, sem_add, sem_addT, sem_addL, sem_sub, sem_mul, sem_mod, sem_div, sem_neg, sem_is, sem_isnt, sem_eqI, sem_neI, sem_eqS, sem_neS, sem_eqB, sem_lenT, sem_lenL, sem_lenS, sem_tupL, sem_tupT, sem_lstT, sem_lstL, sem_intI, sem_intB, sem_all, sem_any, sem_sum, sem_min, sem_max, sem_ixT, sem_ixL, sem_ixS, sem_repr, sem_slT, sem_slL, items_T, items_L, items_S, isi_int_int, isi_int_bool, isi_int_str, isi_int_tuple, isi_int_list, isi_int_dict, isi_bl_int, isi_bl_bool, isi_bl_str, isi_bl_tuple, isi_bl_list, isi_bl_dict, isi_str_int, isi_str_bool, isi_str_str, isi_str_tuple, isi_str_list, isi_str_dict, isi_tup_int, isi_tup_bool, isi_tup_str, isi_tup_tuple, isi_tup_list, isi_tup_dict, isi_lst_int, isi_lst_bool, isi_lst_str, isi_lst_tuple, isi_lst_list, isi_lst_dict, isi_non_int, isi_non_bool, isi_non_str, isi_non_tuple, isi_non_list, isi_non_dict, isi_dct_int, isi_dct_bool, isi_dct_str, isi_dct_tuple, isi_dct_list, isi_dct_dict])
local macro_rules | `(tactic| walk_at "evh") => `(tactic| simp only [*, ev_xDNew, ev_xDispV, ev_xDispI, wp_qPar3, ev_xDGetT, ev_fDNewT, ev_sDPutT, wp_qDPutT, ev_xLcK, ev_xCallG, ev_poOpt, sem_ltX, sem_ltXS, ev_xVar, ev_xInt, ev_xStr, ev_xBl, ev_xTy, ev_xNon, ev_aNil, ev_aCons, ev_xTup, ev_xLst, ev_xOp2, ev_xUn, ev_xFn, ev_xCall, ev_tB_, ev_tTest_, ev_tYes_, ev_tNot_, ev_tAnd_, ev_tOr_, ev_xAnd, ev_xOr, ev_xNot, ev_xIf, ev_xChain, ev_poNone, ev_poSome, ev_gName_, ev_gNil_, ev_gCons_, ev_gTup_, ev_xLc, ev_sNext, ev_sSeq, ev_sDrop, ev_sRet, ev_sRetN, ev_sIf, ev_sAsg, ev_sBreak, ev_sCont, ev_sFor, ev_sWhile, ev_jSeq, ev_jRange1, ev_jRange2, ev_xSl, ev_xRevT, ev_jZip, ev_xPeek, ev_tPeek, ev_sNever, ev_sFz, ev_sOwn, ev_fLst, ev_fLc, ev_fListT, ev_sSetF, ev_sAppend, ev_sExtend, ev_sPar, ev_sAugI, ev_xLc2, ev_xFld, ev_xMeth, ev_xMake, ev_sFld_, ev_xDGet, ev_xDIn, ev_xDGet2, ev_xDc, ev_xValsKeys, ev_xLenSet, ev_xSortSet, ev_jZip3, ev_sParL, ev_sPar3, wp_qE, wp_qA, wp_qT, wp_qI, wp_qF, wp_qP, wp_qS, wp_qCons, wp_qTup, wp_qLst, wp_qOp2, wp_qUn, wp_qFn, wp_qCall, wp_qDraw, wp_qB, wp_qTest, wp_qNotT, wp_qAndT, wp_qOrT, wp_qAnd, wp_qOr, wp_qNot, wp_qIf, wp_qChain, wp_qPart, wp_qSeqI, wp_qRange1, wp_qRange2, wp_qLc, wp_qfLc, wp_qSeq, wp_qDrop, wp_qRet, wp_qIfS, wp_qAsg, wp_qFor, wp_qWhile, wp_qFz, wp_qSetF, wp_qAppend, wp_qExtend, wp_qPar, ev_jEnum1, ev_jEnum2, wp_qParM2, wp_qParM3, wp_qParMN, ev_sParM2, ev_sParM3, ev_sParMN, ev_fDNew, ev_fDict, wp_qfDict, wp_qfLst, ev_sDPut_, ev_fRep, ev_sIxPut, ev_jZipM, ev_xOrT, ev_xAndT, tru_lst, tru_tup, tru_non, tru_bl, List.getElem?_cons_zero, List.getElem?_cons_succ, List.set_cons_zero, List.set_cons_succ, List.map_cons, List.map_nil, List.length_cons, List.length_nil, List.length_map, Option.bind_some, Option.bind_none, atEnv_d, ownAt_o, blOf_b, inOf_i, lstOf_l, hide_d, hide_any, hide_own, hide_pot, frz_d, frz_any, frz_own, frz_pot, wipeE, when_t, when_f, end_rt, end_nx, Bool.not_true, Bool.not_false, lc1, Nat.zero_add, Nat.reduceAdd, Int.cast_ofNat_Int, beq_self_eq_true, Int.reduceBEq, Int.reduceLE, Int.reduceLT, decide_true, decide_false, Int.reduceNeg, Nat.reduceBEq, Bool.and_true, Bool.true_and, Bool.and_false, Bool.false_and, insOf_s, dctOf_d, keyOf_s, keyOf_i, unown, freeAt, ownAt_a, ownAt_dd, ownAt_p, blt_dec, Nat.reduceLT, Option.isNone_none, Option.isNone_some, fzAt, mpEv, parEnv, unowns, ex_some, ex_int, ex_two, ex_lst, at_nx, at_rt, isNon_i, isNon_s, isNon_n, true_and, and_true, nbeq, at0, at1, at2, sz0, sz1, sz2, sz3, sz4, sz5, sz6, sz7, sz8, bools_map, wholes_map, texts_map, all_id, any_id, sem_lt, sem_le, sem_gt, sem_ge, sem_ltS, sem_leS, sem_add, sem_addT, sem_addL, sem_sub, sem_mul, sem_mod, sem_div, sem_neg, sem_is, sem_isnt, sem_eqI, sem_neI, sem_eqS, sem_neS, sem_eqB, sem_lenT, sem_lenL, sem_lenS, sem_tupL, sem_tupT, sem_lstT, sem_lstL, sem_intI, sem_intB, sem_all, sem_any, sem_sum, sem_min, sem_max, sem_ixT, sem_ixL, sem_ixS, sem_repr, sem_slT, sem_slL, items_T, items_L, items_S, isi_int_int, isi_int_bool, isi_int_str, isi_int_tuple, isi_int_list, isi_int_dict, isi_bl_int, isi_bl_bool, isi_bl_str, isi_bl_tuple, isi_bl_list, isi_bl_dict, isi_str_int, isi_str_bool, isi_str_str, isi_str_tuple, isi_str_list, isi_str_dict, isi_tup_int, isi_tup_bool, isi_tup_str, isi_tup_tuple, isi_tup_list, isi_tup_dict, isi_lst_int, isi_lst_bool, isi_lst_str, isi_lst_tuple, isi_lst_list, isi_lst_dict, isi_non_int, isi_non_bool, isi_non_str, isi_non_tuple, isi_non_list, isi_non_dict, isi_dct_int, isi_dct_bool, isi_dct_str, isi_dct_tuple, isi_dct_list, isi_dct_dict])

theorem ne_q {ys : List D} (h : ∀ y ∈ ys, itemB y = true) : mNe.f (.tup ys) (.tup []) = some (.bl (!ys.isEmpty)) := by
  refine ne_unit (layK.lay (k := 2) (layK_tup fun x hx => ?_) (by decide))
  obtain ⟨s, t, w, rfl, hs, ht, hw⟩ := itemB_inv (h x hx)
  have hs2 : okName s = true := by
    simp only [wordB, List.elem_eq_mem, decide_eq_true_eq, List.mem_cons, List.not_mem_nil, or_false] at hs
    rcases hs with rfl | rfl <;> decide +kernel
  refine layK_tup (k := 0) fun x hx => ?_
  simp only [List.mem_cons, List.not_mem_nil, or_false] at hx
  rcases hx with rfl | rfl | rfl
  · exact layK_str hs2
  · exact layK_str ht
  · exact layK_int _
theorem itemB_item {q : Item} (hn : okName q.2.1 = true) (hw : q.2.2 ≠ 0) (hl : q.2.2.natAbs ≤ 1000000) : itemB (itemD q) = true ∧ fineD (itemD q) = true := by
  obtain ⟨b, t, w⟩ := q
  dsimp only at hn hw hl
  constructor
  · show (wordB (sortW b) && okName t && !(w == 0)) = true
    have e1 : wordB (sortW b) = true := by cases b <;> decide +kernel
    have e2 : (w == 0) = false := by rw [beq_eq_false_iff_ne]; exact hw
    rw [e1, hn, e2]
    rfl
  · have e1 : fineD (.str (sortW b)) = true := by cases b <;> decide +kernel
    show fineL [.str (sortW b), .str t, .int w] = true
    rw [fineL, fineL, fineL, fineL, e1, (lite_str hn).fine, (lite_int (i := w) (by omega)).fine]
    rfl
def rtE (q : D) (e2 e3 e4 e5 : E) : List E := [.pot, .d q, e2, e3, e4, e5]
theorem neS_same (s : Str) : mNe.f (.str s) (.str s) = some (.bl false) := by rw [sem_neS, beq_self_eq_true]; rfl
theorem tail_ok {m : Nat} {q d : D} {e2 e3 e4 : E} {L : Nat} {O : Out} (h : Bent L d) (k : ∀ e4, O.nx (rtE q e2 e3 e4 (.d d)) m) : b_law_right_1_2.wp m (rtE q e2 e3 e4 (.d d)) O := by
  have cs := h.lite.show (by decide) (by decide)
  obtain ⟨a, b⟩ := quest_any h.lite (by decide)
  have cb : canShow (.bl (questB d)) = true := by cases questB d <;> rfl
  generalize hv : questB d = v at *
  have n1 := neS_same (py d).shown
  have n2 := neS_same (py (.bl v)).shown
  have k' := fun s : Str => k (.d (.str s))
  unfold b_law_right_1_2 b_law_right_1_3 rtE at *
  clear h k hv
  walk_at "evh"
theorem right_ok (n : Nat) (hn : n + 750 ≤ potMost) : m_law_right [] n fun d n' => d = .bl true ∧ n' ≤ n + 750 := by
  refine ⟨rfl, ?_⟩
  show b_law_right_0.wp n [.pot, .any, .any, .any, .any, .any] _
  unfold b_law_right_0
  walk_at "ev"
  refine rows_ok (M := 5) (by decide) (by decide) (by omega) fun z rs m1 hz hzl hR hm1 => ?_
  have o := okRows_mk hz hR
  refine asked_ok o (by omega) fun qs m2 hq hq3 hq1 hm2 => ?_
  unfold b_law_right_1
  walk_at "ev"
  refine ⟨rangeD 0 12, rfl, ?_⟩
  have hl6 : (rangeD 0 12).length = 12 := rfl
  refine goForQ_all (fun k env => ∃ (e2 e4 e5 : E), env = rtE (.tup (qs.map itemD)) e2 .any e4 e5) 55 (k := 0) (fun k d env m O' hd hR hm hO => ?_) ⟨_, _, _, rfl⟩ (by rw [hl6]; omega) fun env' m' hR hm' => ?_
  · obtain ⟨e2, e4, e5, rfl⟩ := hR
    refine ⟨rtE (.tup (qs.map itemD)) (.d d) .any e4 e5, rfl, ?_⟩
    unfold b_law_right_1_0 rtE
    walk_at "ev"
    refine bent_ok (L := 3) (by rw [List.length_map]; omega) (by rw [List.length_map]; omega) (by omega) (fun x hx => ?_) (by omega) fun t m3 ht hm3 => ?_
    · obtain ⟨q, hq', rfl⟩ := List.mem_map.mp hx
      exact itemB_item (hq.nm q hq') (hq.wt q hq').1 (hq.wt q hq').2
    have fin : ∀ (t : D) (L m4 : Nat), Bent L t → m4 ≤ m + 55 → b_law_right_1_2.wp m4 (rtE (.tup (qs.map itemD)) (.d d) .any e4 (.d t)) O' := fun t L m4 hb hm4 => tail_ok hb fun e4 => hO _ _ ⟨_, _, _, rfl⟩ hm4
    obtain ⟨qa, qb⟩ := quest_any ht.lite (by decide)
    have f1 := fin t 5 (m3 + 1) ht (by omega)
    unfold rtE at f1 fin
    unfold b_law_right_1_1
    walk_at "ev"
    refine take_ok (m := 5) (by decide) (by decide) (by omega) fun r hr => ?_
    refine ⟨_, sem_eqI _ _, ?_⟩
    cases hc : ((r : Int) == 0) with
    | false =>
      walk_at "ev"
      exact f1
    | true =>
      walk_at "ev"
      rw [qb]
      cases hb : questB t with
      | false => exact ⟨false, rfl, f1⟩
      | true =>
        obtain ⟨ys, rfl⟩ : ∃ ys, t = .tup ys := by cases t <;> first | exact ⟨_, rfl⟩ | cases hb
        have ha : (ys.all itemB && (ys.zip (ys.drop 1)).all fun p => ltI p.1 p.2) = true := hb
        rw [Bool.and_eq_true, List.all_eq_true] at ha
        have en := ne_q ha.1
        cases hy : ys with
        | nil =>
          subst hy
          exact ⟨false, rfl, f1⟩
        | cons y0 ys0 =>
          rw [← hy]
          have e0 : ys.isEmpty = false := by rw [hy]; rfl
          rw [e0] at en
          refine ⟨true, by rw [en]; rfl, ?_⟩
          refine bent_ok (L := 5) (by rw [hy]; simp) (ht.len ys rfl) (by omega) (fun x hx => ⟨ha.1 x hx, (ht.lite.el hx).fine⟩) (by omega) fun t2 m5 ht2 hm5 => ?_
          have := fin t2 7 m5 ht2 (by omega)
          exact this
  · obtain ⟨e2, e4, e5, rfl⟩ := hR
    rw [hl6] at hm'
    have r1 : m_is_question [.tup []] = some (.bl true) := (quest_any (k := 5) (w := 5000) (d := .tup []) ⟨by decide +kernel, by decide +kernel, by decide +kernel⟩ (by decide)).1
    have r2 : m_is_question [.lst []] = some (.bl false) := (quest_any (k := 5) (w := 5000) (d := .lst []) ⟨by decide +kernel, by decide +kernel, by decide +kernel⟩ (by decide)).1
    have r3 : m_is_question [.non] = some (.bl false) := (quest_any (k := 5) (w := 5000) (d := .non) ⟨by decide +kernel, by decide +kernel, by decide +kernel⟩ (by decide)).1
    have r4 : m_is_question [.tup [.tup [.str "kind", .str "x", .int 1]]] = some (.bl true) := (quest_any (k := 5) (w := 5000) (d := .tup [.tup [.str "kind", .str "x", .int 1]]) ⟨by decide +kernel, by decide +kernel, by decide +kernel⟩ (by decide)).1
    have r5 : m_is_question [.tup [.tup [.str "kind", .str "x", .int 1], .tup [.str "kind", .str "x", .int 2]]] = some (.bl false) := (quest_any (k := 5) (w := 5000) (d := .tup [.tup [.str "kind", .str "x", .int 1], .tup [.str "kind", .str "x", .int 2]]) ⟨by decide +kernel, by decide +kernel, by decide +kernel⟩ (by decide)).1
    have r6 : m_is_question [.tup [.tup [.str "step", .str "x", .int 1], .tup [.str "kind", .str "x", .int 1]]] = some (.bl false) := (quest_any (k := 5) (w := 5000) (d := .tup [.tup [.str "step", .str "x", .int 1], .tup [.str "kind", .str "x", .int 1]]) ⟨by decide +kernel, by decide +kernel, by decide +kernel⟩ (by decide)).1
    unfold b_law_right_2 b_law_right_3 b_law_right_4 rtE
    have e9 : mEq.f (.lst [.bl true, .bl false, .bl false, .bl true, .bl false, .bl false]) (.lst [.bl true, .bl false, .bl false, .bl true, .bl false, .bl false]) = some (.bl true) := rfl
    have g : ∀ (e2 e4 : E) (l : D), goLc (gName_ 5) tYes_ (xCall (kwF [0] 1 m_is_question) (aCons (xVar 5) aNil)) [.pot, .d (.tup (qs.map itemD)), e2, .d l, e4, .any] ([.tup [], .lst [], .non, .tup [.tup [.str "kind", .str "x", .int 1]], .tup [.tup [.str "kind", .str "x", .int 1], .tup [.str "kind", .str "x", .int 2]]] ++ [.tup [.tup [.str "step", .str "x", .int 1], .tup [.str "kind", .str "x", .int 1]]]) = some [.bl true, .bl false, .bl false, .bl true, .bl false, .bl false] := fun e2 e4 l => by
      have l1 : ∀ x v, m_is_question [x] = some v → lc1 (gName_ 5) tYes_ (xCall (kwF [0] 1 m_is_question) (aCons (xVar 5) aNil)) [.pot, .d (.tup (qs.map itemD)), e2, .d l, e4, .any] x = some (some v) := fun x v h => by
        have hk : kwF [0] 1 m_is_question [x] = m_is_question [x] := rfl
        clear r1 r2 r3 r4 r5 r6
        walk_at "evh"
      rw [List.cons_append, List.cons_append, List.cons_append, List.cons_append, List.cons_append, List.nil_append]
      rw [goLc_cons, l1 _ _ r1, goLc_cons, l1 _ _ r2, goLc_cons, l1 _ _ r3, goLc_cons, l1 _ _ r4, goLc_cons, l1 _ _ r5, goLc_cons, l1 _ _ r6]
      rfl
    have hf : n + 750 ≥ m' := by omega
    clear o hz hR r1 r2 r3 r4 r5 r6
    walk_at "evh"
    exact ⟨.rt (.bl true), rfl, rfl, hf⟩
end FR
namespace FR
open PySem PySem.Spec PyProof.Rows L2
variable [TheW]
abbrev s_law : Stmt := top 23
abbrev N_law : List Str := ["_law_script", "_law_k", "_law_jar_here", "_law_turn"]
theorem sc_law : FnScope N_law ["_law_script"] (defScope s_law) := ⟨rfl, rfl, rfl, by decide +kernel, rfl, by decide +kernel, by decide +kernel⟩

def spLaw (K : PySem.W.Frag) : Sp := fun vs H Q _ => ∃ (a : Addr) (ns : List Int), vs = [.ref a] ∧ SqL K H a (ns.map V.int) ∧ ns.length ≤ 63 ∧ Only H ∧ ∀ H', Q (.bl true) H'
theorem rp_ints {K : PySem.W.Frag} {H : Hp} : ∀ ns : List Int, RpL K H (ns.map V.int) (ns.map D.int)
  | [] => .nil
  | n :: ns => .cons (.int n) (rp_ints ns)
section
variable {P : Program} {K : PySem.W.Frag} {mg : Str → Option Value} {base : Heap}
theorem walk_law {m_ : List D → Nat → (D → Nat → Prop) → Prop} (hm_ : ∀ n : Nat, n + 750 ≤ potMost → m_ [] n fun d n' => d = .bl true ∧ n' ≤ n + 750) {f : Addr} {fd : FuncData} (T : Txt mg) (F : Fun K "law" "law" s_law f fd) (h_law_jar : Has P TheW.w K mg base 1 "_law_jar" ["_law_script", "_law_k"] (spD K CPot)) (h_law_right : Has P TheW.w K mg base 5 "_law_right" ["_law_jar_here"] (spP K m_)) :
    FnG P TheW.w K mg base (5 + 1) f fd ["_law_script"] (spLaw K) := by
  refine fnG_of F sc_law (fun vs H Q E h => ?_) fun cdv B out t H vs Q E gu hr h => ?_
  · obtain ⟨a, ns, rfl, _⟩ := h; rfl
  · obtain ⟨a, ns, rfl, hS, hlen, hO, k⟩ := h
    refine ⟨_, (pss_cons (ps_for PassesOwn.never rfl (pi_range1 (by rfl) T.n_range (pa_cons (pe_callB (call_max2 rfl) (by rfl) T.n_max (by decide +kernel) (pa_cons pe_int (pa_cons (pe_callB (call_min2 rfl) (by rfl) T.n_min (by decide +kernel) (pa_cons pe_int (pa_cons (pe_callB (k_len (K := K) rfl) (by rfl) T.n_len PySem.boot_len (pa_cons (pv 0) pa_nil)) pa_nil))) pa_nil))) pa_nil)) (pg_name (i := 1) sc_law.nd rfl (Or.inl rfl)) (pss_cons (ps_set (i := 2) sc_law.nd rfl (Or.inr rfl) (pe_has h_law_jar gu (hr.mono (by decide)) (by rfl) (pa_cons (pv 0) (pa_cons (pv 1) pa_nil))))
      (pss_one (ps_if (pt_not (pt_val (pe_callB (k_all (K := K) rfl rfl) (by rfl) T.n_all (by decide +kernel) (pa_cons (pe_lc (own := [("_law_turn", 3)]) rfl sc_law.nd (pi_range1 (by rfl) T.n_range (pa_cons pe_int pa_nil)) (blkOk_by (own := [("_law_turn", 3)]) (N := N_law) (sc := defScope s_law) (by decide +kernel)) (fun _ _ _ _ _ => (pg_name (i := 3) sc_law.nd rfl (Or.inl rfl))) (fun _ _ _ _ _ => pts_nil) (fun _ _ _ _ _ => (pe_has h_law_right gu (hr.mono (by decide)) (by rfl) (pa_cons (pv 2) pa_nil)))) pa_nil)))) (pss_one (ps_ret pe_bl)) pss_nil))))
      (pss_one (ps_ret pe_bl))), ?_⟩
    refine ⟨_, rfl, _, _, rfl, .inl ⟨_, hS, rfl⟩, _, _, rfl, _, _, rfl, _, rfl, ?_, ?_, ?_⟩
    · rw [List.length_map]; split <;> split <;> omega
    · rw [List.length_map]; split <;> split <;> omega
    generalize hj : (if (if (((ns.map V.int).length : Nat) : Int) < 2 then (((ns.map V.int).length : Nat) : Int) else 2) > 1 then (if (((ns.map V.int).length : Nat) : Int) < 2 then (((ns.map V.int).length : Nat) : Int) else 2) else 1) = j
    have j3 : j.toNat ≤ 3 := by rw [← hj]; split <;> split <;> omega
    refine for_range (lo := 0) (n := j.toNat) (fun i σ H' => ∃ e1 e2 e3, σ = [some (.ref a), e1, e2, e3] ∧ Same H H') ⟨_, _, _, rfl, Same.refl _⟩ ?_ ?_
    · rintro i σ H1 hi ⟨e1, e2, e3, rfl, s1⟩
      refine ⟨_, rfl, _, rfl, [], [.lsq (ns.map D.int), .int (0 + i)], fun d => ∃ x y : Int, d = .lst [.int x, .int y, .int 0] ∧ 0 ≤ x ∧ x < 10 ^ 300 ∧ 0 ≤ y ∧ y < 2305843009213693921, fun p hp => (nomatch hp), ?_, ⟨ns, 0 + i, rfl, by omega, by omega, fun x y h1 h2 h3 h4 => ⟨x, y, rfl, h1, h2, h3, h4⟩⟩, ?_⟩
      · refine .cons (.lsq (Same.seq (fun b o e => era_of (s1 b o e) (by simp)) hS) (rp_ints ns)) (.cons (.int _) .nil)
      rintro v d H2 ⟨x, y, rfl, x0, x1, y0, y1⟩ s2 r
      cases r with
      | @lst p us _ hp hr2 =>
        have hp2 : H2 p = some (.lst [.int x, .int y, .int 0]) := by
          cases hr2 with
          | cons a1 r =>
            cases r with
            | cons a2 r =>
              cases r with
              | cons a3 r =>
                cases r
                cases a1; cases a2; cases a3
                exact (era_some hp).1
        have s12 : Same H H2 := s1.trans s2
        have np : H p = none := by
          rcases hO p with z | ⟨o, xs, z⟩
          · exact z
          · rw [s12 _ _ z] at hp2; cases hp2
        refine ⟨6, rfl, by decide, by decide, fun D hD => ?_⟩
        have npD : p ≠ D := ne_of_none hp2 hD
        refine lc_range (lo := 0) (n := 6) (fun j H3 => ∃ m, m ≤ 750 * j ∧ PotOk H3 p m ∧ H3 D = some (.lst (List.replicate j (.bl true))) ∧ ∀ b o, b ≠ p → H2 b = some o → H3 b = some o) ?_ ?_ ?_
        · refine ⟨0, Nat.le_refl _, ⟨x, y, 0, by rw [upd_ne npD]; exact hp2, x0, x1, y0, y1, by decide, by decide⟩, upd_same, fun b o _ e => ?_⟩
          rw [upd_ne (ne_of_none e hD)]; exact e
        · rintro j H3 hj10 ⟨m, hm, po, hDl, kp⟩
          refine ⟨rfl, _, rfl, [p], p, [], m, [], fun d n' => d = .bl true ∧ n' ≤ m + 750, rfl, by simp, fun q hq => ?_, po, .nil, hm_ m ?_, ?_⟩
          · rw [List.mem_singleton] at hq
            subst hq
            exact po.there
          · have : potMost = 1000000 := rfl
            omega
          rintro v d n' H4 ⟨rfl, hn'⟩ kp4 po4 r4
          cases r4
          have hD4 := kp4 D _ npD.symm hDl
          refine ⟨_, hD4, by rw [List.length_replicate, sizeLine_eq]; omega, n', by omega, ?_, ?_, fun b o hb e => ?_⟩
          · obtain ⟨a1, b1, c1, h1, h2⟩ := po4
            exact ⟨a1, b1, c1, by rw [upd_ne npD]; exact h1, h2⟩
          · rw [upd_same, List.replicate_succ']
          · have nb : b ≠ D := ne_of_none e hD
            rw [upd_ne nb]
            exact kp4 b o hb (kp b o hb e)
        · rintro H3 ⟨m, hm, po, hDl, kp⟩
          refine ⟨D, List.replicate 6 true, rfl, .inl (.inl hDl), _, rfl, ?_⟩
          refine ⟨_, _, _, rfl, fun b o e => ?_⟩
          exact kp b o (by rintro rfl; rw [np] at e; cases e) (s12 b o e)
    · rintro σ H1 ⟨e1, e2, e3, rfl, s1⟩
      exact k _
theorem ok_law {f : Addr} {fd : FuncData} (T : Txt mg) (F : Fun K "law" "law" s_law f fd) (h_law_jar : Has P TheW.w K mg base 1 "_law_jar" ["_law_script", "_law_k"] (spD K CPot)) (h_law_right : Has P TheW.w K mg base 5 "_law_right" ["_law_jar_here"] (spP K m_law_right)) :
    FnG P TheW.w K mg base 6 f fd ["_law_script"] (spLaw K) := walk_law right_ok T F h_law_jar h_law_right
theorem law_mk {h : Heap} {f fa : Addr} {oc kV dc pm cd ct : Value} {od an : Option Addr} {sl : Array (Option Value)} (X : K.In h) (G : h.Ns mainGlobals mg) (hfa : mg "law" = some (.ref fa)) (a : PySem.W.nsIn K mainGlobals "law" = some (some (.ref f)))
    (l : K.lookup f = some ⟨oc, od, .func (PySem.W.fnOf "law" "law" (defArgs s_law) (defBody s_law) (defScope s_law) .none kV dc pm an cd ct), sl⟩) (c : PySem.W.codeIn K cd "law" = true) (k : PySem.W.keepIn K (.ref f) = true) :
    ∃ fd : FuncData, Fun K "law" "law" s_law fa fd ∧ ∀ (s : Shared) (v : Value), BindsTo s fd ⟨[v], []⟩ [("_law_script", v)] := by
  have e := hfa.symm.trans (PySem.W.mg_of X G a)
  cases e
  exact ⟨_, fun_mk (st := s_law) l c k, fun s v => .of_eq rfl⟩
end
end FR
namespace FR
open PySem PySem.Spec PyProof.Rows L2
theorem cls_of {K : PySem.W.Frag} {mg : Str → Option Value} {C : Addr} {x q : Str} {st : Stmt} {ps : List Str} (_ : InitIn K mg C x q st ps) (a : PySem.W.plainGet K C Str.empty = true) (b : PySem.W.hasDictIn K C = true) (c : PySem.W.plainOver K C = true) (d : PySem.W.findIn K (.ref C) "__setattr__" = some (some (.builtin "object.__setattr__"))) : L2.Cls K C := ⟨a, b, c, d⟩
theorem noattr_of {K : PySem.W.Frag} {C : Addr} (_ : L2.Cls K C) (f : Str) (h : PySem.W.findIn K (.ref C) f = some none) : L2.NoAttr K C f := h
end FR
open PySem PySem.W PyProof.Rows in
set_option maxRecDepth 100000 in
set_option maxHeartbeats 0 in
theorem PySem.Challenge.cw_fitruns_k07_questions_of_any_value_holds : PySem.Challenge.rw_fitruns_k07_questions_of_any_value.Holds := by
  w_on; o_law; k_head; (case hw => w_witness2)
  k_fill
  refine FR.walkG (l := PySem.Challenge.rw_fitruns_k07_questions_of_any_value) (n := 63) (k := 6) (x := "_law_script") (sp := fun w => FR.spLaw _) rfl (by decide) rfl ⟨rfl, by decide, by decide⟩ (by decide +kernel) (fun w h Y => PySem.W.kIn_of Y) ?F (fun w H a ns hl hO hS => ⟨a, ns, rfl, hS, hl, hO, fun _ => rfl⟩)
  case F =>
    intro w mg fa h KX G hmg
    letI : FR.TheW := ⟨w⟩
    refine' have d_law_is_title := FR.def_in (x := "_law_is_title") (st := FR.s_law_is_title) (ps := ["_law_thing"]) KX G ?a ?l ?c ?k ?b; ?_
    (case a => k_is)
    (case l => k_is)
    (case c => k_is)
    (case k => k_is)
    (case b => exact fun _ _ _ _ _ _ us hl => match us, hl with | [_], _ => rfl)
    refine' have d_law_is_item := FR.def_in (x := "_law_is_item") (st := FR.s_law_is_item) (ps := ["_law_thing"]) KX G ?a ?l ?c ?k ?b; ?_
    (case a => k_is)
    (case l => k_is)
    (case c => k_is)
    (case k => k_is)
    (case b => exact fun _ _ _ _ _ _ us hl => match us, hl with | [_], _ => rfl)
    refine' have d_law_is_one := FR.def_in (x := "_law_is_one") (st := FR.s_law_is_one) (ps := ["_law_thing"]) KX G ?a ?l ?c ?k ?b; ?_
    (case a => k_is)
    (case l => k_is)
    (case c => k_is)
    (case k => k_is)
    (case b => exact fun _ _ _ _ _ _ us hl => match us, hl with | [_], _ => rfl)
    refine' have d_is_integer := FR.def_in (x := "is_integer") (st := FR.s_is_integer) (ps := ["value"]) KX G ?a ?l ?c ?k ?b; ?_
    (case a => k_is)
    (case l => k_is)
    (case c => k_is)
    (case k => k_is)
    (case b => exact fun _ _ _ _ _ _ us hl => match us, hl with | [_], _ => rfl)
    refine' have d_is_name := FR.def_in (x := "is_name") (st := FR.s_is_name) (ps := ["value"]) KX G ?a ?l ?c ?k ?b; ?_
    (case a => k_is)
    (case l => k_is)
    (case c => k_is)
    (case k => k_is)
    (case b => exact fun _ _ _ _ _ _ us hl => match us, hl with | [_], _ => rfl)
    refine' have d_is_item := FR.def_in (x := "is_item") (st := FR.s_is_item) (ps := ["value"]) KX G ?a ?l ?c ?k ?b; ?_
    (case a => k_is)
    (case l => k_is)
    (case c => k_is)
    (case k => k_is)
    (case b => exact fun _ _ _ _ _ _ us hl => match us, hl with | [_], _ => rfl)
    refine' have d_is_ascending := FR.def_in (x := "is_ascending") (st := FR.s_is_ascending) (ps := ["some"]) KX G ?a ?l ?c ?k ?b; ?_
    (case a => k_is)
    (case l => k_is)
    (case c => k_is)
    (case k => k_is)
    (case b => exact fun _ _ _ _ _ _ us hl => match us, hl with | [_], _ => rfl)
    refine' have d_is_question := FR.def_in (x := "is_question") (st := FR.s_is_question) (ps := ["value"]) KX G ?a ?l ?c ?k ?b; ?_
    (case a => k_is)
    (case l => k_is)
    (case c => k_is)
    (case k => k_is)
    (case b => exact fun _ _ _ _ _ _ us hl => match us, hl with | [_], _ => rfl)
    refine' have d_law_jar := FR.def_in (x := "_law_jar") (st := FR.s_law_jar) (ps := ["_law_script", "_law_k"]) KX G ?a ?l ?c ?k ?b; ?_
    (case a => k_is)
    (case l => k_is)
    (case c => k_is)
    (case k => k_is)
    (case b => exact fun _ _ _ _ _ _ us hl => match us, hl with | [_, _], _ => rfl)
    refine' have d_law_take := FR.def_in (x := "_law_take") (st := FR.s_law_take) (ps := ["_law_jar_here", "_law_many"]) KX G ?a ?l ?c ?k ?b; ?_
    (case a => k_is)
    (case l => k_is)
    (case c => k_is)
    (case k => k_is)
    (case b => exact fun _ _ _ _ _ _ us hl => match us, hl with | [_, _], _ => rfl)
    refine' have d_law_of := FR.def_in (x := "_law_of") (st := FR.s_law_of) (ps := ["_law_jar_here", "_law_some"]) KX G ?a ?l ?c ?k ?b; ?_
    (case a => k_is)
    (case l => k_is)
    (case c => k_is)
    (case k => k_is)
    (case b => exact fun _ _ _ _ _ _ us hl => match us, hl with | [_, _], _ => rfl)
    refine' have d_law_asked := FR.def_in (x := "_law_asked") (st := FR.s_law_asked) (ps := ["_law_jar_here", "_law_rows_here"]) KX G ?a ?l ?c ?k ?b; ?_
    (case a => k_is)
    (case l => k_is)
    (case c => k_is)
    (case k => k_is)
    (case b => exact fun _ _ _ _ _ _ us hl => match us, hl with | [_, _], _ => rfl)
    refine' have d_law_rows := FR.def_in (x := "_law_rows") (st := FR.s_law_rows) (ps := ["_law_jar_here", "_law_most"]) KX G ?a ?l ?c ?k ?b; ?_
    (case a => k_is)
    (case l => k_is)
    (case c => k_is)
    (case k => k_is)
    (case b => exact fun _ _ _ _ _ _ us hl => match us, hl with | [_, _], _ => rfl)
    refine' have d_law_odd := FR.def_in (x := "_law_odd") (st := FR.s_law_odd) (ps := ["_law_jar_here"]) KX G ?a ?l ?c ?k ?b; ?_
    (case a => k_is)
    (case l => k_is)
    (case c => k_is)
    (case k => k_is)
    (case b => exact fun _ _ _ _ _ _ us hl => match us, hl with | [_], _ => rfl)
    refine' have d_law_bent := FR.def_in (x := "_law_bent") (st := FR.s_law_bent) (ps := ["_law_jar_here", "_law_asked_here"]) KX G ?a ?l ?c ?k ?b; ?_
    (case a => k_is)
    (case l => k_is)
    (case c => k_is)
    (case k => k_is)
    (case b => exact fun _ _ _ _ _ _ us hl => match us, hl with | [_, _], _ => rfl)
    refine' have d_law_right := FR.def_in (x := "_law_right") (st := FR.s_law_right) (ps := ["_law_jar_here"]) KX G ?a ?l ?c ?k ?b; ?_
    (case a => k_is)
    (case l => k_is)
    (case c => k_is)
    (case k => k_is)
    (case b => exact fun _ _ _ _ _ _ us hl => match us, hl with | [_], _ => rfl)
    refine' have kw_is_question := FR.kw_in (x := "is_question") (st := FR.s_is_question) (ks := ["value"]) (ps := ["value"]) (ix := [0]) KX G ?a ?l ?b; ?_
    (case a => k_is)
    (case l => k_is)
    (case b => exact fun _ _ _ _ _ _ us hl => match us, hl with | [_], _ => rfl)
    have n_isinstance := FR.no_of (x := "isinstance") KX G (by k_is)
    have n_int := FR.no_of (x := "int") KX G (by k_is)
    have n_bool := FR.no_of (x := "bool") KX G (by k_is)
    have n_str := FR.no_of (x := "str") KX G (by k_is)
    have n_tuple := FR.no_of (x := "tuple") KX G (by k_is)
    have n_len := FR.no_of (x := "len") KX G (by k_is)
    have n_all := FR.no_of (x := "all") KX G (by k_is)
    have n_any := FR.no_of (x := "any") KX G (by k_is)
    have n_zip := FR.no_of (x := "zip") KX G (by k_is)
    have n_abs := FR.no_of (x := "abs") KX G (by k_is)
    have n_max := FR.no_of (x := "max") KX G (by k_is)
    have n_min := FR.no_of (x := "min") KX G (by k_is)
    have n_range := FR.no_of (x := "range") KX G (by k_is)
    have n_repr := FR.no_of (x := "repr") KX G (by k_is)
    have n_list := FR.no_of (x := "list") KX G (by k_is)
    have n_dict := FR.no_of (x := "dict") KX G (by k_is)
    have n_set := FR.no_of (x := "set") KX G (by k_is)
    have n_sorted := FR.no_of (x := "sorted") KX G (by k_is)
    have n_sum := FR.no_of (x := "sum") KX G (by k_is)
    have n_enumerate := FR.no_of (x := "enumerate") KX G (by k_is)
    have c_STEP : FR.Gc mg "STEP" (.str "step") := by
      refine' FR.gc_of KX G ?a ?r
      (case a => k_is)
      (case r => exact ⟨_, rfl⟩)
    have c_KIND : FR.Gc mg "KIND" (.str "kind") := by
      refine' FR.gc_of KX G ?a ?r
      (case a => k_is)
      (case r => exact ⟨_, rfl⟩)
    have c_MOST_LETTERS : FR.Gc mg "MOST_LETTERS" (.int 8) := by
      refine' FR.gc_of KX G ?a ?r
      (case a => k_is)
      (case r => exact ⟨_, rfl⟩)
    have c_LETTERS : FR.Gc mg "LETTERS" (.str "abcdefghijklmnopqrstuvwxyz") := by
      refine' FR.gc_of KX G ?a ?r
      (case a => k_is)
      (case r => exact ⟨_, rfl⟩)
    have T : FR.Txt mg := ⟨n_isinstance, n_int, n_bool, n_str, n_tuple, n_len, n_all, n_any, n_zip, n_abs, n_max, n_min, n_range, n_repr, n_list, n_dict, n_set, n_sorted, n_sum, n_enumerate, c_STEP, c_KIND, c_MOST_LETTERS, c_LETTERS⟩
    have TC : ∀ K : PySem.W.Frag, FR.TxtC K := fun _ => ⟨trivial⟩
    refine' have lw := FR.law_mk KX G hmg ?a ?l ?c ?k; ?_
    (case a => k_is)
    (case l => k_is)
    (case c => k_is)
    (case k => k_is)
    obtain ⟨fd, F, hb⟩ := lw
    refine ⟨fd, hb, fun base _ _ sysb => ?_⟩
    have h_law_is_title := FR.ok_law_is_title (P := (PySem.Challenge.rw_fitruns_k07_questions_of_any_value).prog) (base := base) T (TC _) sysb d_law_is_title
    have h_law_is_item := FR.ok_law_is_item (P := (PySem.Challenge.rw_fitruns_k07_questions_of_any_value).prog) (base := base) T (TC _) sysb d_law_is_item h_law_is_title
    have h_law_is_one := FR.ok_law_is_one (P := (PySem.Challenge.rw_fitruns_k07_questions_of_any_value).prog) (base := base) T (TC _) sysb d_law_is_one h_law_is_item
    have h_is_integer := FR.ok_is_integer (P := (PySem.Challenge.rw_fitruns_k07_questions_of_any_value).prog) (base := base) T (TC _) sysb d_is_integer
    have h_is_name := FR.ok_is_name (P := (PySem.Challenge.rw_fitruns_k07_questions_of_any_value).prog) (base := base) T (TC _) sysb d_is_name
    have h_is_item := FR.ok_is_item (P := (PySem.Challenge.rw_fitruns_k07_questions_of_any_value).prog) (base := base) T (TC _) sysb d_is_item h_is_integer h_is_name
    have h_is_ascending := FR.ok_is_ascending (P := (PySem.Challenge.rw_fitruns_k07_questions_of_any_value).prog) (base := base) T (TC _) sysb d_is_ascending
    have h_is_question := FR.ok_is_question (P := (PySem.Challenge.rw_fitruns_k07_questions_of_any_value).prog) (base := base) T (TC _) sysb d_is_question h_is_item h_is_ascending
    have h_law_jar := FR.ok_law_jar (P := (PySem.Challenge.rw_fitruns_k07_questions_of_any_value).prog) (base := base) T d_law_jar
    have h_law_take := FR.ok_law_take (P := (PySem.Challenge.rw_fitruns_k07_questions_of_any_value).prog) (base := base) T d_law_take
    have h_law_of := FR.ok_law_of (P := (PySem.Challenge.rw_fitruns_k07_questions_of_any_value).prog) (base := base) T (TC _) sysb d_law_of h_law_take
    have h_law_asked := FR.ok_law_asked (P := (PySem.Challenge.rw_fitruns_k07_questions_of_any_value).prog) (base := base) T (TC _) sysb d_law_asked h_law_take h_law_of
    have h_law_rows := FR.ok_law_rows (P := (PySem.Challenge.rw_fitruns_k07_questions_of_any_value).prog) (base := base) T (TC _) sysb d_law_rows h_law_take h_law_of
    have h_law_odd := FR.ok_law_odd (P := (PySem.Challenge.rw_fitruns_k07_questions_of_any_value).prog) (base := base) T (TC _) sysb d_law_odd h_law_of
    have h_law_bent := FR.ok_law_bent (P := (PySem.Challenge.rw_fitruns_k07_questions_of_any_value).prog) (base := base) T (TC _) sysb d_law_bent h_law_odd h_law_take h_law_of
    have h_law_right := FR.ok_law_right (P := (PySem.Challenge.rw_fitruns_k07_questions_of_any_value).prog) (base := base) T (TC _) sysb d_law_right h_law_asked h_law_rows h_law_bent h_law_is_one h_law_take h_is_question kw_is_question
    exact FR.ok_law T F h_law_jar h_law_right
