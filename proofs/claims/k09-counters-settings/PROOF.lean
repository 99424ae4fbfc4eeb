import PyProof.Rows.All
import Wide.All
import OpenK.AllK
import Wide.FinOn
import HandS.ForMost
import HandS.Walk
import HandS.Zip
import HandS.IsInst
import KE.DatumIndex
import PyProof.ReprRoads
import HandS.RaiseMore
import HandS.TupAny
import HandS.TupMul
import PyProof.StrLawsRepr
import PySem.Challenge.RW_fitruns_k09_counters_and_settings_of_any
set_option Elab.async false
set_option linter.all false
set_option maxRecDepth 100000
set_option maxHeartbeats 4000000
namespace FR
open PySem L2

/-! ## data without a heap -/
inductive D where
  | non | bl (b : Bool) | int (i : Int) | str (x : Str)
  | lst (xs : List D) | tup (xs : List D) | dct (kvs : List (Key × D)) | ty (n : String) | lsq (xs : List D)

mutual
inductive Rp (K : PySem.W.Frag) (H : Hp) : V → D → Prop
  | non : Rp K H .non .non
  | bl (b : Bool) : Rp K H (.bl b) (.bl b)
  | int (i : Int) : Rp K H (.int i) (.int i)
  | str (x : Str) : Rp K H (.str x) (.str x)
  | ty (n : String) : Rp K H (.ty n) (.ty n)
  | lst {a : Addr} {xs : List V} {ds : List D} : H a = some (.lst xs) → RpL K H xs ds → Rp K H (.ref a) (.lst ds)
  | lsq {a : Addr} {xs : List V} {ds : List D} : SqL K H a xs → RpL K H xs ds → Rp K H (.ref a) (.lsq ds)
  | tup {a : Addr} {xs : List V} {ds : List D} : SqT K H a xs → RpL K H xs ds → Rp K H (.ref a) (.tup ds)
  | dct {a : Addr} {kvs : List (Key × V)} {ds : List (Key × D)} : H a = some (.dK kvs) → RpK K H kvs ds → Rp K H (.ref a) (.dct ds)
inductive RpL (K : PySem.W.Frag) (H : Hp) : List V → List D → Prop
  | nil : RpL K H [] []
  | cons {v : V} {vs : List V} {d : D} {ds : List D} : Rp K H v d → RpL K H vs ds → RpL K H (v :: vs) (d :: ds)
inductive RpK (K : PySem.W.Frag) (H : Hp) : List (Key × V) → List (Key × D) → Prop
  | nil : RpK K H [] []
  | cons {k : Key} {v : V} {vs : List (Key × V)} {d : D} {ds : List (Key × D)} : Rp K H v d → RpK K H vs ds → RpK K H ((k, v) :: vs) ((k, d) :: ds)
end

theorem same_sqT {K : PySem.W.Frag} {H H' : Hp} {a : Addr} {xs : List V} (e : Same H H') (h : SqT K H a xs) : SqT K H' a xs := by
  rcases h with (h | ⟨o, h⟩) | h
  · exact .inl (.inl (e _ _ h))
  · exact .inl (.inr ⟨o, e _ _ h⟩)
  · exact .inr h

mutual
theorem Rp.mono {K : PySem.W.Frag} {H H' : Hp} (e : Same H H') : ∀ {v : V} {d : D}, Rp K H v d → Rp K H' v d
  | _, _, .non => .non
  | _, _, .bl b => .bl b
  | _, _, .int b => .int b
  | _, _, .str b => .str b
  | _, _, .ty b => .ty b
  | _, _, .lst h r => .lst (e _ _ h) (RpL.mono e r)
  | _, _, .tup h r => .tup (same_sqT e h) (RpL.mono e r)
  | _, _, .lsq h r => .lsq (Same.seq e h) (RpL.mono e r)
  | _, _, .dct h r => .dct (e _ _ h) (RpK.mono e r)
theorem RpL.mono {K : PySem.W.Frag} {H H' : Hp} (e : Same H H') : ∀ {v : List V} {d : List D}, RpL K H v d → RpL K H' v d
  | _, _, .nil => .nil
  | _, _, .cons a b => .cons (Rp.mono e a) (RpL.mono e b)
theorem RpK.mono {K : PySem.W.Frag} {H H' : Hp} (e : Same H H') : ∀ {v : List (Key × V)} {d : List (Key × D)}, RpK K H v d → RpK K H' v d
  | _, _, .nil => .nil
  | _, _, .cons a b => .cons (Rp.mono e a) (RpK.mono e b)
end
theorem RpL.len {K : PySem.W.Frag} {H : Hp} : ∀ {v : List V} {d : List D}, RpL K H v d → v.length = d.length
  | _, _, .nil => rfl
  | _, _, .cons _ b => by simp [RpL.len b]
theorem RpL.get {K : PySem.W.Frag} {H : Hp} : ∀ {v : List V} {d : List D} {i : Nat} {x : D}, RpL K H v d → d[i]? = some x → ∃ u, v[i]? = some u ∧ Rp K H u x
  | _, _, _, _, .nil, h => by simp at h
  | _, _, 0, x, .cons a b, h => by simp at h; subst h; exact ⟨_, rfl, a⟩
  | _, _, i + 1, x, .cons a b, h => by
    obtain ⟨u, h1, h2⟩ := RpL.get (i := i) (x := x) b (by simpa using h)
    exact ⟨u, by simpa using h1, h2⟩
theorem RpL.getV {K : PySem.W.Frag} {H : Hp} : ∀ {v : List V} {d : List D} {i : Nat} {u : V}, RpL K H v d → v[i]? = some u → ∃ x, d[i]? = some x ∧ Rp K H u x
  | _, _, _, _, .nil, h => by simp at h
  | _, _, 0, x, .cons a b, h => by simp at h; subst h; exact ⟨_, rfl, a⟩
  | _, _, i + 1, x, .cons a b, h => by
    obtain ⟨u, h1, h2⟩ := RpL.getV (i := i) (u := x) b (by simpa using h)
    exact ⟨u, by simpa using h1, h2⟩
theorem RpL.app {K : PySem.W.Frag} {H : Hp} : ∀ {v w : List V} {d e : List D}, RpL K H v d → RpL K H w e → RpL K H (v ++ w) (d ++ e)
  | _, _, _, _, .nil, h => h
  | _, _, _, _, .cons a b, h => .cons a (RpL.app b h)
theorem RpL.split {K : PySem.W.Frag} {H : Hp} : ∀ {v w : List V} {d e : List D}, v.length = d.length → RpL K H (v ++ w) (d ++ e) → RpL K H v d ∧ RpL K H w e
  | [], _, [], _, _, h => ⟨.nil, h⟩
  | [], _, _ :: _, _, l, _ => by simp at l
  | _ :: _, _, [], _, l, _ => by simp at l
  | _ :: _, _, _ :: _, _, l, .cons a b => by
    have h := RpL.split (by simpa using l) b
    exact ⟨.cons a h.1, h.2⟩
theorem RpL.take {K : PySem.W.Frag} {H : Hp} : ∀ {v : List V} {d : List D} (n : Nat), RpL K H v d → RpL K H (v.take n) (d.take n)
  | _, _, 0, _ => .nil
  | _, _, _ + 1, .nil => .nil
  | _, _, n + 1, .cons a b => .cons a (RpL.take n b)
theorem RpL.drop {K : PySem.W.Frag} {H : Hp} : ∀ {v : List V} {d : List D} (n : Nat), RpL K H v d → RpL K H (v.drop n) (d.drop n)
  | _, _, 0, h => h
  | _, _, _ + 1, .nil => .nil
  | _, _, n + 1, .cons _ b => RpL.drop n b

/-! ## heaps with parts hidden -/
def era (H : Hp) (M : List Addr) : Hp := fun b => if b ∈ M then Option.none else H b
theorem era_some {H : Hp} {M : List Addr} {b : Addr} {o : HO} (h : era H M b = some o) : H b = some o ∧ b ∉ M := by
  unfold era at h
  split at h
  · cases h
  · exact ⟨h, by assumption⟩
theorem era_of {H : Hp} {M : List Addr} {b : Addr} {o : HO} (h : H b = some o) (n : b ∉ M) : era H M b = some o := by
  unfold era; rw [if_neg n]; exact h
theorem era_sub (H : Hp) (M : List Addr) : Same (era H M) H := fun _ _ h => (era_some h).1
theorem era_less {H : Hp} {M M' : List Addr} (h : ∀ b ∈ M', b ∈ M) : Same (era H M) (era H M') := fun b o e => by
  obtain ⟨e1, e2⟩ := era_some e
  exact era_of e1 fun z => e2 (h b z)
theorem era_mono {H H' : Hp} (M : List Addr) (e : Same H H') : Same (era H M) (era H' M) := fun b o h => by
  obtain ⟨h1, h2⟩ := era_some h
  exact era_of (e _ _ h1) h2
theorem same_new {H : Hp} {p : Addr} {o : HO} (h : H p = Option.none) : Same H (upd H p o) := fun b u e => by
  rw [upd_ne (ne_of_none e h)]; exact e

/-! ## the pot of draws -/
def potMost : Nat := 1000000
def PotOk (H : Hp) (p : Addr) (n : Nat) : Prop := ∃ a b c : Int, H p = some (.lst [.int a, .int b, .int c]) ∧ 0 ≤ a ∧ a < 10 ^ 300 ∧ 0 ≤ b ∧ b < 2305843009213693921 ∧ 0 ≤ c ∧ c ≤ n
theorem PotOk.mono {H H' : Hp} {p : Addr} {n : Nat} (e : Same H H') (h : PotOk H p n) : PotOk H' p n := by
  obtain ⟨a, b, c, h, r⟩ := h
  exact ⟨a, b, c, e _ _ h, r⟩
theorem PotOk.le {H : Hp} {p : Addr} {n m : Nat} (h : PotOk H p n) (l : n ≤ m) : PotOk H p m := by
  obtain ⟨a, b, c, h, h1, h2, h3, h4, h5, h6⟩ := h
  exact ⟨a, b, c, h, h1, h2, h3, h4, h5, by omega⟩
theorem PotOk.there {H : Hp} {p : Addr} {n : Nat} (h : PotOk H p n) : H p ≠ Option.none := by
  obtain ⟨a, b, c, h, _⟩ := h
  rw [h]; exact fun z => by cases z

/-! ## worlds -/
inductive E where
  | any | d (x : D) | own (xs : List D) | pot

structure Wo where
  K : PySem.W.Frag
  P : Option Addr
  M0 : List Addr
  H0 : Hp

def EnvOk (W : Wo) (U H : Hp) : List E → St → List Addr → Prop
  | [], [], [] => True
  | .any :: es, _ :: σ, M => EnvOk W U H es σ M
  | .d x :: es, o :: σ, M => (∃ v, o = some v ∧ Rp W.K U v x) ∧ EnvOk W U H es σ M
  | .own xs :: es, o :: σ, p :: M => (∃ vs, o = some (.ref p) ∧ H p = some (.lst vs) ∧ RpL W.K U vs xs) ∧ EnvOk W U H es σ M
  | .pot :: es, o :: σ, M => (∃ p, o = some (.ref p) ∧ W.P = some p) ∧ EnvOk W U H es σ M
  | _, _, _ => False

theorem EnvOk.mono {W : Wo} {U U' H H' : Hp} (eu : Same U U') (eh : Same H H') : ∀ {env : List E} {σ : St} {M : List Addr}, EnvOk W U H env σ M → EnvOk W U' H' env σ M
  | [], [], [], _ => trivial
  | [], [], _ :: _, h => h.elim
  | [], _ :: _, _, h => h.elim
  | .any :: es, [], _, h => h.elim
  | .any :: es, _ :: σ, M, h => EnvOk.mono (env := es) (σ := σ) eu eh h
  | .d x :: es, [], _, h => h.elim
  | .d x :: es, o :: σ, M, h => ⟨by obtain ⟨v, e, r⟩ := h.1; exact ⟨v, e, r.mono eu⟩, EnvOk.mono (env := es) (σ := σ) eu eh h.2⟩
  | .own xs :: es, [], _, h => h.elim
  | .own xs :: es, _ :: _, [], h => h.elim
  | .own xs :: es, o :: σ, p :: M, h => ⟨by obtain ⟨vs, e, q, r⟩ := h.1; exact ⟨vs, e, eh _ _ q, r.mono eu⟩, EnvOk.mono (env := es) (σ := σ) eu eh h.2⟩
  | .pot :: es, [], _, h => h.elim
  | .pot :: es, o :: σ, M, h => ⟨h.1, EnvOk.mono (env := es) (σ := σ) eu eh h.2⟩

theorem EnvOk.len {W : Wo} {U H : Hp} : ∀ {env : List E} {σ : St} {M : List Addr}, EnvOk W U H env σ M → σ.length = env.length
  | [], [], [], _ => rfl
  | [], [], _ :: _, h => h.elim
  | [], _ :: _, _, h => h.elim
  | .any :: es, [], _, h => h.elim
  | .any :: es, _ :: σ, M, h => by simp [EnvOk.len (env := es) (σ := σ) (M := M) h]
  | .d x :: es, [], _, h => h.elim
  | .d x :: es, o :: σ, M, h => by simp [EnvOk.len (env := es) (σ := σ) (M := M) h.2]
  | .own xs :: es, [], _, h => h.elim
  | .own xs :: es, _ :: _, [], h => h.elim
  | .own xs :: es, o :: σ, p :: M, h => by simp [EnvOk.len (env := es) (σ := σ) (M := M) h.2]
  | .pot :: es, [], _, h => h.elim
  | .pot :: es, o :: σ, M, h => by simp [EnvOk.len (env := es) (σ := σ) (M := M) h.2]

theorem EnvOk.getD {W : Wo} {U H : Hp} : ∀ {env : List E} {σ : St} {M : List Addr} {i : Nat} {x : D}, EnvOk W U H env σ M → env[i]? = some (.d x) → ∃ v, σ[i]? = some (some v) ∧ Rp W.K U v x
  | [], _, _, _, _, _, h => by simp at h
  | .any :: es, [], _, _, _, h, _ => h.elim
  | .any :: es, _ :: σ, M, 0, x, h, e => by simp at e
  | .any :: es, _ :: σ, M, i + 1, x, h, e => by
    simpa using EnvOk.getD (env := es) (σ := σ) (M := M) (i := i) (x := x) h (by simpa using e)
  | .d _ :: es, [], _, _, _, h, _ => h.elim
  | .d y :: es, o :: σ, M, 0, x, h, e => by
    simp at e; subst e; obtain ⟨v, e1, r⟩ := h.1; exact ⟨v, by simp [e1], r⟩
  | .d y :: es, o :: σ, M, i + 1, x, h, e => by
    simpa using EnvOk.getD (env := es) (σ := σ) (M := M) (i := i) (x := x) h.2 (by simpa using e)
  | .own xs :: es, [], _, _, _, h, _ => h.elim
  | .own xs :: es, _ :: _, [], _, _, h, _ => h.elim
  | .own xs :: es, o :: σ, p :: M, 0, x, h, e => by simp at e
  | .own xs :: es, o :: σ, p :: M, i + 1, x, h, e => by
    simpa using EnvOk.getD (env := es) (σ := σ) (M := M) (i := i) (x := x) h.2 (by simpa using e)
  | .pot :: es, [], _, _, _, h, _ => h.elim
  | .pot :: es, o :: σ, M, 0, x, h, e => by simp at e
  | .pot :: es, o :: σ, M, i + 1, x, h, e => by
    simpa using EnvOk.getD (env := es) (σ := σ) (M := M) (i := i) (x := x) h.2 (by simpa using e)

theorem EnvOk.getP {W : Wo} {U H : Hp} : ∀ {env : List E} {σ : St} {M : List Addr} {i : Nat}, EnvOk W U H env σ M → env[i]? = some .pot → ∃ p, σ[i]? = some (some (.ref p)) ∧ W.P = some p
  | [], _, _, _, _, h => by simp at h
  | .any :: es, [], _, _, h, _ => h.elim
  | .any :: es, _ :: σ, M, 0, h, e => by simp at e
  | .any :: es, _ :: σ, M, i + 1, h, e => by
    simpa using EnvOk.getP (env := es) (σ := σ) (M := M) (i := i) h (by simpa using e)
  | .d _ :: es, [], _, _, h, _ => h.elim
  | .d y :: es, o :: σ, M, 0, h, e => by simp at e
  | .d y :: es, o :: σ, M, i + 1, h, e => by
    simpa using EnvOk.getP (env := es) (σ := σ) (M := M) (i := i) h.2 (by simpa using e)
  | .own xs :: es, [], _, _, h, _ => h.elim
  | .own xs :: es, _ :: _, [], _, h, _ => h.elim
  | .own xs :: es, o :: σ, p :: M, 0, h, e => by simp at e
  | .own xs :: es, o :: σ, p :: M, i + 1, h, e => by
    simpa using EnvOk.getP (env := es) (σ := σ) (M := M) (i := i) h.2 (by simpa using e)
  | .pot :: es, [], _, _, h, _ => h.elim
  | .pot :: es, o :: σ, M, 0, h, e => by obtain ⟨p, e1, r⟩ := h.1; exact ⟨p, by simp [e1], r⟩
  | .pot :: es, o :: σ, M, i + 1, h, e => by
    simpa using EnvOk.getP (env := es) (σ := σ) (M := M) (i := i) h.2 (by simpa using e)


theorem EnvOk.ofL {W : Wo} {U H : Hp} : ∀ {us : List V} {ds : List D} {es : List E} {vs : St} {M : List Addr}, RpL W.K U us ds → EnvOk W U H es vs M → EnvOk W U H (ds.map E.d ++ es) (us.map some ++ vs) M
  | _, _, _, _, _, .nil, h => h
  | _, _, _, _, _, .cons a b, h => ⟨⟨_, rfl, a⟩, EnvOk.ofL b h⟩
theorem EnvOk.toL {W : Wo} {U H : Hp} : ∀ {us : List V} {ds : List D} {es : List E} {vs : St} {M : List Addr}, us.length = ds.length → EnvOk W U H (ds.map E.d ++ es) (us.map some ++ vs) M → RpL W.K U us ds ∧ EnvOk W U H es vs M
  | [], [], _, _, _, _, h => ⟨.nil, h⟩
  | [], _ :: _, _, _, _, l, _ => by simp at l
  | _ :: _, [], _, _, _, l, _ => by simp at l
  | u :: us, d :: ds, es, vs, M, l, h => by
    obtain ⟨⟨v, e, r⟩, h2⟩ := h
    cases e
    have q := EnvOk.toL (us := us) (ds := ds) (es := es) (vs := vs) (M := M) (by simpa using l) h2
    exact ⟨.cons r q.1, q.2⟩

structure Wd (W : Wo) (n : Nat) (env : List E) (σ : St) (stk : List E) (vs : St) (H : Hp) : Prop where
  keep : ∀ b o, W.P ≠ some b → W.H0 b = some o → H b = some o
  hid : ∀ p ∈ W.M0, W.H0 p ≠ Option.none
  pot : ∀ p, W.P = some p → p ∈ W.M0 ∧ PotOk H p n
  rest : ∃ M1 M2 : List Addr, (∀ p ∈ M1 ++ M2, W.H0 p = Option.none ∧ H p ≠ Option.none) ∧ (M1 ++ M2).Nodup ∧ EnvOk W (era H (W.M0 ++ (M1 ++ M2))) H env σ M1 ∧ EnvOk W (era H (W.M0 ++ (M1 ++ M2))) H stk vs M2

theorem Wd.hidH {W : Wo} {n : Nat} {env stk : List E} {σ : St} {vs : St} {H : Hp} (w : Wd W n env σ stk vs H) : ∀ p ∈ W.M0, H p ≠ Option.none := fun p hp => by
  by_cases e : W.P = some p
  · exact (w.pot p e).2.there
  · cases q : W.H0 p with
    | none => exact absurd q (w.hid p hp)
    | some o => rw [w.keep p o e q]; exact fun z => by cases z

section
variable {W : Wo} {n m : Nat} {env stk : List E} {σ : St} {ds : List D} {vs : St} {us : List V} {H H' : Hp} {d x y : D} {v vx vy : V}

/-- nothing that stood has changed -/
theorem Wd.mono (w : Wd W n env σ stk vs H) (e : Same H H') : Wd W n env σ stk vs H' := by
  obtain ⟨k, h, p, M1, M2, a, nd, b, c⟩ := w
  refine ⟨fun b o n q => e _ _ (k b o n q), h, fun q hq => ⟨(p q hq).1, (p q hq).2.mono e⟩, M1, M2, fun q hq => ⟨(a q hq).1, fun z => ?_⟩, nd, b.mono (era_mono _ e) e, c.mono (era_mono _ e) e⟩
  cases r : H q with
  | none => exact (a q hq).2 r
  | some o => rw [e _ _ r] at z; cases z
theorem Wd.le (w : Wd W n env σ stk vs H) (l : n ≤ m) : Wd W m env σ stk vs H :=
  ⟨w.keep, w.hid, fun p hp => ⟨(w.pot p hp).1, (w.pot p hp).2.le l⟩, w.rest⟩
/-- the data on the stack, turned as any view shows it -/
theorem Wd.restk (w : Wd W n env σ (ds.map E.d ++ stk) (us.map some ++ vs) H) (l : us.length = ds.length) {ds' : List D} {us' : List V} (f : ∀ U : Hp, Same U H → RpL W.K U us ds → RpL W.K U us' ds') : Wd W n env σ (ds'.map E.d ++ stk) (us'.map some ++ vs) H := by
  obtain ⟨k, h, p, M1, M2, a, nd, b, c⟩ := w
  obtain ⟨c1, c2⟩ := EnvOk.toL l c
  exact ⟨k, h, p, M1, M2, a, nd, b, EnvOk.ofL (f _ (era_sub _ _) c1) c2⟩
theorem Wd.push (w : Wd W n env σ stk vs H) (f : ∀ U : Hp, Same U H → Rp W.K U v d) : Wd W n env σ (.d d :: stk) (some v :: vs) H :=
  Wd.restk (ds := []) (us := []) (ds' := [d]) (us' := [v]) w rfl fun U s _ => .cons (f U s) .nil
theorem Wd.pop (w : Wd W n env σ (.d d :: stk) (some v :: vs) H) : Wd W n env σ stk vs H :=
  Wd.restk (ds := [d]) (us := [v]) (ds' := []) (us' := []) w rfl fun U s _ => .nil
theorem Wd.pops (w : Wd W n env σ (ds.map E.d ++ stk) (us.map some ++ vs) H) (l : us.length = ds.length) : Wd W n env σ stk vs H :=
  Wd.restk (ds' := []) (us' := []) w l fun U s _ => .nil
theorem Wd.sees (w : Wd W n env σ (ds.map E.d ++ stk) (us.map some ++ vs) H) (l : us.length = ds.length) : RpL W.K H us ds := by
  obtain ⟨k, h, p, M1, M2, a, nd, b, c⟩ := w
  exact (EnvOk.toL l c).1.mono (era_sub _ _)
theorem Wd.top (w : Wd W n env σ (.d d :: stk) (some v :: vs) H) : Rp W.K H v d := by
  have h := Wd.sees (ds := [d]) (us := [v]) w rfl
  cases h with
  | cons h _ => exact h
/-- a new object onto the stack, its parts on the stack -/
theorem Wd.new (w : Wd W n env σ (ds.map E.d ++ stk) (us.map some ++ vs) H) (l : us.length = ds.length) {p : Addr} {o : HO} (hp : H p = Option.none) (f : ∀ U : Hp, U p = some o → RpL W.K U us ds → Rp W.K U (.ref p) d) :
    Wd W n env σ (.d d :: stk) (some (.ref p) :: vs) (upd H p o) := by
  have hid := w.hidH
  obtain ⟨k, h, pp, M1, M2, a, nd, b, c⟩ := w
  have e : Same H (upd H p o) := same_new hp
  refine ⟨fun b o n q => e _ _ (k b o n q), h, fun q hq => ⟨(pp q hq).1, (pp q hq).2.mono e⟩, M1, M2, fun q hq => ⟨(a q hq).1, fun z => ?_⟩, nd, b.mono (era_mono _ e) e, ?_⟩
  · cases r : H q with
    | none => exact (a q hq).2 r
    | some o => rw [e _ _ r] at z; cases z
  · obtain ⟨c1, c2⟩ := EnvOk.toL l (c.mono (era_mono _ e) e)
    refine ⟨⟨_, rfl, f _ (era_of upd_same fun z => ?_) c1⟩, c2⟩
    rcases List.mem_append.mp z with z | z
    · exact hid p z hp
    · exact (a p z).2 hp
theorem Wd.swap (l : us.length = ds.length) (w : Wd W n env σ (ds.map E.d ++ (.d d :: stk)) (us.map some ++ (some v :: vs)) H) : Wd W n env σ ((d :: ds).map E.d ++ stk) ((v :: us).map some ++ vs) H := by
  have w2 : Wd W n env σ ((ds ++ [d]).map E.d ++ stk) ((us ++ [v]).map some ++ vs) H := by
    have e1 : (ds ++ [d]).map E.d ++ stk = ds.map E.d ++ (.d d :: stk) := by simp
    have e2 : (us ++ [v]).map some ++ vs = us.map some ++ (some v :: vs) := by simp
    rw [e1, e2]; exact w
  refine w2.restk (by simp [l]) fun U _ r => ?_
  obtain ⟨r1, r2⟩ := RpL.split l r
  cases r2 with
  | cons r2 _ => exact .cons r2 r1

/-! ## what is to be shown of a reading -/
def Wp (W : Wo) (t : TE) (n : Nat) (env : List E) (Φ : D → Nat → Prop) : Prop := ∀ σ stk vs H (Q : VK), Wd W n env σ stk vs H →
  (∀ v d n' H', Φ d n' → Wd W n' env σ (.d d :: stk) (some v :: vs) H' → Q v H') → t σ H Q
def WpT (W : Wo) (t : TT) (n : Nat) (env : List E) (Φ : Bool → Nat → Prop) : Prop := ∀ σ stk vs H (Q : Bool → Hp → Prop), Wd W n env σ stk vs H →
  (∀ b n' H', Φ b n' → Wd W n' env σ stk vs H' → Q b H') → t σ H Q
def WpA (W : Wo) (t : TA) (n : Nat) (env : List E) (Φ : List D → Nat → Prop) : Prop := ∀ σ stk vs H (Q : List V → Hp → Prop), Wd W n env σ stk vs H →
  (∀ us ds n' H', Φ ds n' → us.length = ds.length → Wd W n' env σ (ds.map E.d ++ stk) (us.map some ++ vs) H' → Q us H') → t σ H Q
def WpO (W : Wo) (t : TO) (n : Nat) (env : List E) (Φ : Option Int → Nat → Prop) : Prop := ∀ σ stk vs H (Q : Option Int → Hp → Prop), Wd W n env σ stk vs H →
  (∀ o n' H', Φ o n' → Wd W n' env σ stk vs H' → Q o H') → t σ H Q
/-- a two-place operation on values -/
def Op2 (W : Wo) (r : R2) (n : Nat) (x y : D) (Φ : D → Nat → Prop) : Prop := ∀ env σ stk vs vx vy H (Q : VK), Wd W n env σ (.d y :: .d x :: stk) (some vy :: some vx :: vs) H →
  (∀ v d n' H', Φ d n' → Wd W n' env σ (.d d :: stk) (some v :: vs) H' → Q v H') → r vx vy H Q
def Op1 (W : Wo) (r : V → Hp → VK → Prop) (n : Nat) (x : D) (Φ : D → Nat → Prop) : Prop := ∀ env σ stk vs vx H (Q : VK), Wd W n env σ (.d x :: stk) (some vx :: vs) H →
  (∀ v d n' H', Φ d n' → Wd W n' env σ (.d d :: stk) (some v :: vs) H' → Q v H') → r vx H Q
/-- a built-in on a list of values -/
def OpN (W : Wo) (r : List V → Hp → VK → Prop) (n : Nat) (ds : List D) (Φ : D → Nat → Prop) : Prop := ∀ env σ stk vs us H (Q : VK), us.length = ds.length → Wd W n env σ (ds.map E.d ++ stk) (us.map some ++ vs) H →
  (∀ v d n' H', Φ d n' → Wd W n' env σ (.d d :: stk) (some v :: vs) H' → Q v H') → r us H Q

section
variable {ta tb te tx : TE} {tt tu : TT} {tas : TA} {r : R2} {Φ : D → Nat → Prop} {i : Nat}
theorem Wp.mono {Ψ : D → Nat → Prop} (h : Wp W te n env Φ) (f : ∀ d n, Φ d n → Ψ d n) : Wp W te n env Ψ := fun σ stk vs H Q w q => h σ stk vs H Q w fun v d n' H' p => q v d n' H' (f _ _ p)
theorem wp_var (h : env[i]? = some (.d x)) (q : Φ x n) : Wp W (tVar i) n env Φ := fun σ stk vs H Q w k => by
  obtain ⟨kk, hh, pp, M1, M2, a, nd, b, c⟩ := w
  obtain ⟨v, e, r⟩ := b.getD h
  exact ⟨v, e, k v x n H q ⟨kk, hh, pp, M1, M2, a, nd, b, ⟨_, rfl, r⟩, c⟩⟩
theorem wp_c (h : ∀ K U, Rp K U v d) (q : Φ d n) : Wp W (tC v) n env Φ := fun σ stk vs H Q w k =>
  k v d n H q (w.push fun U _ => h _ U)
theorem wp_ci {i : Int} (q : Φ (.int i) n) : Wp W (tC (.int i)) n env Φ := wp_c (fun _ _ => .int i) q
theorem wp_cs {x : Str} (q : Φ (.str x) n) : Wp W (tC (.str x)) n env Φ := wp_c (fun _ _ => .str x) q
theorem wp_cb {b : Bool} (q : Φ (.bl b) n) : Wp W (tC (.bl b)) n env Φ := wp_c (fun _ _ => .bl b) q
theorem wp_ct {x : String} (q : Φ (.ty x) n) : Wp W (tC (.ty x)) n env Φ := wp_c (fun _ _ => .ty x) q
theorem wp_cn (q : Φ .non n) : Wp W (tC .non) n env Φ := wp_c (fun _ _ => .non) q
theorem wpA_nil {Φ : List D → Nat → Prop} (q : Φ [] n) : WpA W tNil n env Φ := fun σ stk vs H Q w k => k [] [] n H q rfl w
theorem wpA_cons {Φ : List D → Nat → Prop} (q : Wp W te n env fun d n1 => WpA W tas n1 env fun ds n2 => Φ (d :: ds) n2) : WpA W (tCons te tas) n env Φ := fun σ stk vs H Q w k =>
  q σ stk vs H _ w fun v d n1 H1 q1 w1 => q1 σ (.d d :: stk) (some v :: vs) H1 _ w1 fun us ds n2 H2 q2 l w2 => k (v :: us) (d :: ds) n2 H2 q2 (by simp [l]) (Wd.swap l w2)
theorem wp_tup (q : WpA W tas n env fun ds n' => ds.length ≤ sizeLine ∧ Φ (.tup ds) n') : Wp W (tTup tas) n env Φ := fun σ stk vs H Q w k =>
  q σ stk vs H _ w fun us ds n' H' q' l w' => ⟨by rw [l]; exact q'.1, fun p hp => k _ _ n' _ q'.2 (w'.new l hp fun U hu r => .tup (.inl (.inl hu)) r)⟩
theorem wp_lst (q : WpA W tas n env fun ds n' => ds.length ≤ sizeLine ∧ Φ (.lst ds) n') : Wp W (tLst tas) n env Φ := fun σ stk vs H Q w k =>
  q σ stk vs H _ w fun us ds n' H' q' l w' => ⟨by rw [l]; exact q'.1, fun p hp => k _ _ n' _ q'.2 (w'.new l hp fun U hu r => .lst hu r)⟩
theorem wp_op (q : Wp W ta n env fun x n1 => Wp W tb n1 env fun y n2 => Op2 W r n2 x y Φ) : Wp W (tOp r ta tb) n env Φ := fun σ stk vs H Q w k =>
  q σ stk vs H _ w fun vx x n1 H1 q1 w1 => q1 σ _ _ H1 _ w1 fun vy y n2 H2 q2 w2 => q2 env σ stk vs vx vy H2 Q w2 k
theorem wp_un {r : V → Hp → VK → Prop} (q : Wp W ta n env fun x n1 => Op1 W r n1 x Φ) : Wp W (tUn r ta) n env Φ := fun σ stk vs H Q w k =>
  q σ stk vs H _ w fun vx x n1 H1 q1 w1 => q1 env σ stk vs vx H1 Q w1 k
theorem wp_cb2 {r : List V → Hp → VK → Prop} (q : WpA W tas n env fun ds n1 => OpN W r n1 ds Φ) : Wp W (tCB r tas) n env Φ := fun σ stk vs H Q w k =>
  q σ stk vs H _ w fun us ds n1 H1 q1 l w1 => q1 env σ stk vs us H1 Q l w1 k
theorem wp_if (q : WpT W tt n env fun b n1 => if b = true then Wp W ta n1 env Φ else Wp W tb n1 env Φ) : Wp W (tIf tt ta tb) n env Φ := fun σ stk vs H Q w k =>
  q σ stk vs H _ w fun b n1 H1 q1 w1 => by
    cases b with
    | true => exact q1 σ stk vs H1 Q w1 k
    | false => exact q1 σ stk vs H1 Q w1 k
theorem wp_andV (q : Wp W ta n env fun x n1 => ∃ c, x = .bl c ∧ if c = true then Wp W tb n1 env Φ else Φ (.bl false) n1) : Wp W (tAndV ta tb) n env Φ := fun σ stk vs H Q w k =>
  q σ stk vs H _ w fun v d n1 H1 q1 w1 => by
    obtain ⟨c, rfl, q1⟩ := q1
    have t := w1.top
    cases t
    refine ⟨c, rfl, ?_⟩
    cases c with
    | true => exact q1 σ stk vs H1 Q w1.pop k
    | false => exact k _ _ n1 H1 q1 w1
theorem wp_orV (q : Wp W ta n env fun x n1 => ∃ c, x = .bl c ∧ if c = true then Φ (.bl true) n1 else Wp W tb n1 env Φ) : Wp W (tOrV ta tb) n env Φ := fun σ stk vs H Q w k =>
  q σ stk vs H _ w fun v d n1 H1 q1 w1 => by
    obtain ⟨c, rfl, q1⟩ := q1
    have t := w1.top
    cases t
    refine ⟨c, rfl, ?_⟩
    cases c with
    | true => exact k _ _ n1 H1 q1 w1
    | false => exact q1 σ stk vs H1 Q w1.pop k
theorem wp_notV (q : Wp W ta n env fun x n1 => ∃ c, x = .bl c ∧ Φ (.bl (!c)) n1) : Wp W (tNotV ta) n env Φ := fun σ stk vs H Q w k =>
  q σ stk vs H _ w fun v d n1 H1 q1 w1 => by
    obtain ⟨c, rfl, q1⟩ := q1
    have t := w1.top
    cases t
    exact ⟨c, rfl, k _ _ n1 H1 q1 (w1.pop.push fun U _ => .bl _)⟩
theorem wpT_B {Φ : Bool → Nat → Prop} (q : Wp W te n env fun x n1 => ∃ c, x = .bl c ∧ Φ c n1) : WpT W (tB te) n env Φ := fun σ stk vs H Q w k =>
  q σ stk vs H _ w fun v d n1 H1 q1 w1 => by
    obtain ⟨c, rfl, q1⟩ := q1
    have t := w1.top
    cases t
    exact ⟨c, rfl, k c n1 H1 q1 w1.pop⟩
theorem wpT_test {Φ : Bool → Nat → Prop} (q : Wp W te n env fun x n1 => ∃ c, x = .bl c ∧ Φ c n1) : WpT W (tTest te) n env Φ := wpT_B q
theorem wpT_and {Φ : Bool → Nat → Prop} (q : WpT W tt n env fun b n1 => if b = true then WpT W tu n1 env Φ else Φ false n1) : WpT W (tAnd tt tu) n env Φ := fun σ stk vs H Q w k =>
  q σ stk vs H _ w fun b n1 H1 q1 w1 => by
    cases b with
    | true => exact q1 σ stk vs H1 Q w1 k
    | false => exact k _ n1 H1 q1 w1
theorem wpT_or {Φ : Bool → Nat → Prop} (q : WpT W tt n env fun b n1 => if b = true then Φ true n1 else WpT W tu n1 env Φ) : WpT W (tOr tt tu) n env Φ := fun σ stk vs H Q w k =>
  q σ stk vs H _ w fun b n1 H1 q1 w1 => by
    cases b with
    | true => exact k _ n1 H1 q1 w1
    | false => exact q1 σ stk vs H1 Q w1 k
theorem wpT_not {Φ : Bool → Nat → Prop} (q : WpT W tt n env fun b n1 => Φ (!b) n1) : WpT W (tNot tt) n env Φ := fun σ stk vs H Q w k =>
  q σ stk vs H _ w fun b n1 H1 q1 w1 => k _ n1 H1 q1 w1
theorem wpT_yes {Φ : Bool → Nat → Prop} (q : Φ true n) : WpT W tYes n env Φ := fun σ stk vs H Q w k => k _ n H q w
theorem wp_chain {r r' : R2} {tc : TE} (q : Wp W ta n env fun x n1 => Wp W tb n1 env fun y n2 => Op2 W r n2 x y fun z n3 => ∃ c, z = .bl c ∧ if c = true then Wp W tc n3 env (fun e n4 => Op2 W r' n4 y e Φ) else Φ (.bl false) n3) :
    Wp W (tChain r r' ta tb tc) n env Φ := fun σ stk vs H Q w k =>
  q σ stk vs H _ w fun vx x n1 H1 q1 w1 => q1 σ _ _ H1 _ w1 fun vy y n2 H2 q2 w2 => q2 env σ (.d y :: stk) (some vy :: vs) vx vy H2 _ (Wd.restk (ds := [y, x]) (us := [vy, vx]) (ds' := [y, x, y]) (us' := [vy, vx, vy]) w2 rfl fun U _ r => by
    cases r with
    | cons r1 r2 =>
      cases r2 with
      | cons r2 r3 => exact .cons r1 (.cons r2 (.cons r1 .nil))) fun vz z n3 H3 q3 w3 => by
    obtain ⟨c, rfl, q3⟩ := q3
    have t := w3.top
    cases t
    refine ⟨c, rfl, ?_⟩
    cases c with
    | true => exact q3 σ _ _ H3 _ w3.pop fun ve e n4 H4 q4 w4 => q4 env σ stk vs vy ve H4 Q w4 k
    | false => exact k _ _ n3 H3 q3 (w3.pop.pop.push fun U _ => .bl _)
theorem wpO_none {Φ : Option Int → Nat → Prop} (q : Φ Option.none n) : WpO W tNoPart n env Φ := fun σ stk vs H Q w k => k _ n H q w
theorem wpO_some {Φ : Option Int → Nat → Prop} (q : Wp W te n env fun x n1 => ∃ i, x = .int i ∧ Φ (some i) n1) : WpO W (tPart te) n env Φ := fun σ stk vs H Q w k =>
  q σ stk vs H _ w fun v d n1 H1 q1 w1 => by
    obtain ⟨i, rfl, q1⟩ := q1
    have t := w1.top
    cases t
    exact ⟨i, rfl, k _ n1 H1 q1 w1.pop⟩

/-! ### operations whose answer hangs on no heap -/
theorem op2_pure {v : V} {d : D} (hr : ∀ vx vy H (Q : VK), Rp W.K H vx x → Rp W.K H vy y → Q v H → r vx vy H Q) (hd : ∀ K U, Rp K U v d) (q : Φ d n) : Op2 W r n x y Φ := fun env σ stk vs vx vy H Q w k => by
  exact hr vx vy H Q w.pop.top w.top (k _ _ n H q (w.pop.pop.push fun U _ => hd _ U))
theorem op2_i {g : Int → Int → V} {i j : Int} (hd : ∀ K U, Rp K U (g i j) d) (q : Φ d n) : Op2 W (rI0 g) n (.int i) (.int j) Φ := op2_pure (fun vx vy H Q h1 h2 k => by
  cases h1; cases h2; exact ⟨i, j, rfl, rfl, k⟩) hd q
theorem op2_ic {g : Int → Int → V} {C : Int → Int → Prop} {i j : Int} (hc : C i j) (hd : ∀ K U, Rp K U (g i j) d) (q : Φ d n) : Op2 W (rI C g) n (.int i) (.int j) Φ := op2_pure (fun vx vy H Q h1 h2 k => by
  cases h1; cases h2; exact ⟨i, j, rfl, rfl, hc, k⟩) hd q
end
end
end FR
namespace FR
open PySem L2

/-! ## changes of what is held -/
theorem EnvOk.mono2 {W : Wo} {U U' H H' : Hp} (eu : Same U U') : ∀ {env : List E} {σ : St} {M : List Addr}, (∀ p ∈ M, ∀ o, H p = some o → H' p = some o) → EnvOk W U H env σ M → EnvOk W U' H' env σ M
  | [], [], [], _, _ => trivial
  | [], [], _ :: _, _, h => h.elim
  | [], _ :: _, _, _, h => h.elim
  | .any :: es, [], _, _, h => h.elim
  | .any :: es, _ :: σ, M, eh, h => EnvOk.mono2 (env := es) (σ := σ) eu eh h
  | .d x :: es, [], _, _, h => h.elim
  | .d x :: es, o :: σ, M, eh, h => ⟨by obtain ⟨v, e, r⟩ := h.1; exact ⟨v, e, r.mono eu⟩, EnvOk.mono2 (env := es) (σ := σ) eu eh h.2⟩
  | .own xs :: es, [], _, _, h => h.elim
  | .own xs :: es, _ :: _, [], _, h => h.elim
  | .own xs :: es, o :: σ, p :: M, eh, h => ⟨by obtain ⟨vs, e, q, r⟩ := h.1; exact ⟨vs, e, eh p List.mem_cons_self _ q, r.mono eu⟩, EnvOk.mono2 (env := es) (σ := σ) eu (fun q hq => eh q (List.mem_cons_of_mem _ hq)) h.2⟩
  | .pot :: es, [], _, _, h => h.elim
  | .pot :: es, o :: σ, M, eh, h => ⟨h.1, EnvOk.mono2 (env := es) (σ := σ) eu eh h.2⟩

def hideE : E → E
  | .own _ => .any
  | e => e
theorem EnvOk.hide {W : Wo} {U H : Hp} : ∀ {env : List E} {σ : St} {M : List Addr}, EnvOk W U H env σ M → EnvOk W U H (env.map hideE) σ []
  | [], [], [], _ => trivial
  | [], [], _ :: _, h => h.elim
  | [], _ :: _, _, h => h.elim
  | .any :: es, [], _, h => h.elim
  | .any :: es, _ :: σ, M, h => EnvOk.hide (env := es) (σ := σ) (M := M) h
  | .d x :: es, [], _, h => h.elim
  | .d x :: es, o :: σ, M, h => ⟨h.1, EnvOk.hide (env := es) (σ := σ) (M := M) h.2⟩
  | .own xs :: es, [], _, h => h.elim
  | .own xs :: es, _ :: _, [], h => h.elim
  | .own xs :: es, o :: σ, p :: M, h => EnvOk.hide (env := es) (σ := σ) (M := M) h.2
  | .pot :: es, [], _, h => h.elim
  | .pot :: es, o :: σ, M, h => ⟨h.1, EnvOk.hide (env := es) (σ := σ) (M := M) h.2⟩
theorem EnvOk.app {W : Wo} {U H : Hp} : ∀ {env : List E} {σ : St} {M : List Addr} {env' : List E} {σ' : St} {M' : List Addr}, EnvOk W U H env σ M → EnvOk W U H env' σ' M' → EnvOk W U H (env ++ env') (σ ++ σ') (M ++ M')
  | [], [], [], _, _, _, _, h => h
  | [], [], _ :: _, _, _, _, h, _ => h.elim
  | [], _ :: _, _, _, _, _, h, _ => h.elim
  | .any :: es, [], _, _, _, _, h, _ => h.elim
  | .any :: es, _ :: σ, M, _, _, _, h, h' => EnvOk.app (env := es) (σ := σ) (M := M) h h'
  | .d x :: es, [], _, _, _, _, h, _ => h.elim
  | .d x :: es, o :: σ, M, _, _, _, h, h' => ⟨h.1, EnvOk.app (env := es) (σ := σ) (M := M) h.2 h'⟩
  | .own xs :: es, [], _, _, _, _, h, _ => h.elim
  | .own xs :: es, _ :: _, [], _, _, _, h, _ => h.elim
  | .own xs :: es, o :: σ, p :: M, _, _, _, h, h' => ⟨h.1, EnvOk.app (env := es) (σ := σ) (M := M) h.2 h'⟩
  | .pot :: es, [], _, _, _, _, h, _ => h.elim
  | .pot :: es, o :: σ, M, _, _, _, h, h' => ⟨h.1, EnvOk.app (env := es) (σ := σ) (M := M) h.2 h'⟩
theorem EnvOk.cut {W : Wo} {U H : Hp} : ∀ {env : List E} {σ : St} {env' : List E} {σ' : St} {M : List Addr}, σ.length = env.length → EnvOk W U H (env ++ env') (σ ++ σ') M → ∃ Ma Mb, M = Ma ++ Mb ∧ EnvOk W U H env σ Ma ∧ EnvOk W U H env' σ' Mb
  | [], [], _, _, M, _, h => ⟨[], M, rfl, trivial, h⟩
  | [], _ :: _, _, _, _, l, _ => by simp at l
  | _ :: _, [], _, _, _, l, _ => by simp at l
  | .any :: es, o :: σ, env', σ', M, l, h => by
    obtain ⟨a, b, e, h1, h2⟩ := EnvOk.cut (env := es) (σ := σ) (env' := env') (σ' := σ') (M := M) (by simpa using l) h
    exact ⟨a, b, e, h1, h2⟩
  | .d x :: es, o :: σ, env', σ', M, l, h => by
    obtain ⟨a, b, e, h1, h2⟩ := EnvOk.cut (env := es) (σ := σ) (env' := env') (σ' := σ') (M := M) (by simpa using l) h.2
    exact ⟨a, b, e, ⟨h.1, h1⟩, h2⟩
  | .own xs :: es, o :: σ, env', σ', [], l, h => h.elim
  | .own xs :: es, o :: σ, env', σ', p :: M, l, h => by
    obtain ⟨a, b, e, h1, h2⟩ := EnvOk.cut (env := es) (σ := σ) (env' := env') (σ' := σ') (M := M) (by simpa using l) h.2
    exact ⟨p :: a, b, by rw [e]; rfl, ⟨h.1, h1⟩, h2⟩
  | .pot :: es, o :: σ, env', σ', M, l, h => by
    obtain ⟨a, b, e, h1, h2⟩ := EnvOk.cut (env := es) (σ := σ) (env' := env') (σ' := σ') (M := M) (by simpa using l) h.2
    exact ⟨a, b, e, ⟨h.1, h1⟩, h2⟩
/-- a slot filled anew: what it owned is let go -/
theorem EnvOk.put {W : Wo} {U H : Hp} {e : E} {o : Option V} (he : (∃ x v, e = .d x ∧ o = some v ∧ Rp W.K U v x) ∨ e = .any) : ∀ {env : List E} {σ : St} {M : List Addr} (i : Nat), EnvOk W U H env σ M → ∃ M', M'.Sublist M ∧ EnvOk W U H (env.set i e) (σ.set i o) M'
  | [], [], [], _, _ => ⟨[], .refl _, trivial⟩
  | [], [], _ :: _, _, h => h.elim
  | [], _ :: _, _, _, h => h.elim
  | .any :: es, [], _, _, h => h.elim
  | .any :: es, a :: σ, M, 0, h => ⟨M, .refl _, by
      rcases he with ⟨x, v, rfl, rfl, r⟩ | rfl
      · exact ⟨⟨v, rfl, r⟩, h⟩
      · exact h⟩
  | .any :: es, a :: σ, M, i + 1, h => by
    obtain ⟨M', s, q⟩ := EnvOk.put he (env := es) (σ := σ) (M := M) i h
    exact ⟨M', s, q⟩
  | .d x :: es, [], _, _, h => h.elim
  | .d x :: es, a :: σ, M, 0, h => ⟨M, .refl _, by
      rcases he with ⟨x, v, rfl, rfl, r⟩ | rfl
      · exact ⟨⟨v, rfl, r⟩, h.2⟩
      · exact h.2⟩
  | .d x :: es, a :: σ, M, i + 1, h => by
    obtain ⟨M', s, q⟩ := EnvOk.put he (env := es) (σ := σ) (M := M) i h.2
    exact ⟨M', s, h.1, q⟩
  | .own xs :: es, [], _, _, h => h.elim
  | .own xs :: es, _ :: _, [], _, h => h.elim
  | .own xs :: es, a :: σ, p :: M, 0, h => ⟨M, .cons _ (.refl _), by
      rcases he with ⟨x, v, rfl, rfl, r⟩ | rfl
      · exact ⟨⟨v, rfl, r⟩, h.2⟩
      · exact h.2⟩
  | .own xs :: es, a :: σ, p :: M, i + 1, h => by
    obtain ⟨M', s, q⟩ := EnvOk.put he (env := es) (σ := σ) (M := M) i h.2
    exact ⟨p :: M', .cons₂ _ s, h.1, q⟩
  | .pot :: es, [], _, _, h => h.elim
  | .pot :: es, a :: σ, M, 0, h => ⟨M, .refl _, by
      rcases he with ⟨x, v, rfl, rfl, r⟩ | rfl
      · exact ⟨⟨v, rfl, r⟩, h.2⟩
      · exact h.2⟩
  | .pot :: es, a :: σ, M, i + 1, h => by
    obtain ⟨M', s, q⟩ := EnvOk.put he (env := es) (σ := σ) (M := M) i h.2
    exact ⟨M', s, h.1, q⟩
/-- an owned list in a slot -/
theorem EnvOk.owned {W : Wo} {U H : Hp} {xs : List D} : ∀ {env : List E} {σ : St} {M : List Addr} {i : Nat}, EnvOk W U H env σ M → env[i]? = some (.own xs) → ∃ p Ma Mb vs, M = Ma ++ p :: Mb ∧ σ[i]? = some (some (.ref p)) ∧ H p = some (.lst vs) ∧ RpL W.K U vs xs ∧
      (∀ (U' H' : Hp) ys ws, Same U U' → (∀ q ∈ Ma ++ Mb, ∀ o, H q = some o → H' q = some o) → H' p = some (.lst ws) → RpL W.K U' ws ys → EnvOk W U' H' (env.set i (.own ys)) σ M) ∧
      (∀ (U' : Hp) x, Same U U' → Rp W.K U' (.ref p) x → EnvOk W U' H (env.set i (.d x)) σ (Ma ++ Mb))
  | [], _, _, _, _, h => by simp at h
  | .any :: es, [], _, _, h, _ => h.elim
  | .any :: es, _ :: σ, M, 0, h, e => by simp at e
  | .any :: es, _ :: σ, M, i + 1, h, e => by
    obtain ⟨p, Ma, Mb, vs, e1, e2, e3, e4, f, g⟩ := EnvOk.owned (env := es) (σ := σ) (M := M) (i := i) h (by simpa using e)
    exact ⟨p, Ma, Mb, vs, e1, by simpa using e2, e3, e4, fun U' H' ys ws a b c d => f U' H' ys ws a b c d, fun U' x a b => g U' x a b⟩
  | .d _ :: es, [], _, _, h, _ => h.elim
  | .d y :: es, o :: σ, M, 0, h, e => by simp at e
  | .d y :: es, o :: σ, M, i + 1, h, e => by
    obtain ⟨p, Ma, Mb, vs, e1, e2, e3, e4, f, g⟩ := EnvOk.owned (env := es) (σ := σ) (M := M) (i := i) h.2 (by simpa using e)
    refine ⟨p, Ma, Mb, vs, e1, by simpa using e2, e3, e4, fun U' H' ys ws a b c d => ⟨?_, f U' H' ys ws a b c d⟩, fun U' x a b => ⟨?_, g U' x a b⟩⟩
    all_goals (obtain ⟨v, e, r⟩ := h.1; exact ⟨v, e, r.mono a⟩)
  | .own zs :: es, [], _, _, h, _ => h.elim
  | .own zs :: es, _ :: _, [], _, h, _ => h.elim
  | .own zs :: es, o :: σ, p :: M, 0, h, e => by
    simp at e; subst e
    obtain ⟨vs, e1, e2, e3⟩ := h.1
    refine ⟨p, [], M, vs, rfl, by simp [e1], e2, e3, fun U' H' ys ws a b c d => ⟨⟨ws, e1, c, d⟩, EnvOk.mono2 a (fun q hq => b q (by simpa using hq)) h.2⟩, fun U' x a b => ⟨⟨_, e1, b⟩, EnvOk.mono2 a (fun q hq o z => z) h.2⟩⟩
  | .own zs :: es, o :: σ, p :: M, i + 1, h, e => by
    obtain ⟨q, Ma, Mb, vs, e1, e2, e3, e4, f, g⟩ := EnvOk.owned (env := es) (σ := σ) (M := M) (i := i) h.2 (by simpa using e)
    obtain ⟨vz, z1, z2, z3⟩ := h.1
    refine ⟨q, p :: Ma, Mb, vs, by rw [e1]; rfl, by simpa using e2, e3, e4, fun U' H' ys ws a b c d => ⟨⟨vz, z1, b p (by simp) _ z2, z3.mono a⟩, f U' H' ys ws a (fun q hq => b q (by simp at hq ⊢; exact .inr hq)) c d⟩, fun U' x a b => ⟨⟨vz, z1, z2, z3.mono a⟩, g U' x a b⟩⟩
  | .pot :: es, [], _, _, h, _ => h.elim
  | .pot :: es, o :: σ, M, 0, h, e => by simp at e
  | .pot :: es, o :: σ, M, i + 1, h, e => by
    obtain ⟨p, Ma, Mb, vs, e1, e2, e3, e4, f, g⟩ := EnvOk.owned (env := es) (σ := σ) (M := M) (i := i) h.2 (by simpa using e)
    exact ⟨p, Ma, Mb, vs, e1, by simpa using e2, e3, e4, fun U' H' ys ws a b c d => ⟨h.1, f U' H' ys ws a b c d⟩, fun U' x a b => ⟨h.1, g U' x a b⟩⟩

def wipeE (env : List E) : List Nat → List E
  | [] => env
  | v :: vs => (wipeE env vs).set v .any
theorem EnvOk.wipe {W : Wo} {U H : Hp} {env : List E} {σ : St} (h : EnvOk W U H env σ []) : ∀ sl : List Nat, EnvOk W U H (wipeE env sl) (L2.wipe σ sl) []
  | [] => h
  | v :: vs => by
    obtain ⟨M', s, q⟩ := EnvOk.put (e := .any) (o := Option.none) (.inr rfl) v (EnvOk.wipe h vs)
    have e : M' = [] := by cases s; rfl
    rw [e] at q
    exact q
theorem wipe_get {σ : St} {j : Nat} : ∀ {sl : List Nat}, (L2.wipe σ sl)[j]? = if j ∈ sl then (if j < σ.length then some Option.none else Option.none) else σ[j]?
  | [] => by simp [L2.wipe]
  | v :: vs => by
    unfold L2.wipe
    rw [List.getElem?_set]
    by_cases e : v = j
    · subst e
      simp [wipe_length]
    · rw [if_neg e, wipe_get (sl := vs)]
      have : (j = v ∨ j ∈ vs) ↔ j ∈ vs := by constructor; (rintro (h | h); exact absurd h.symm e; exact h); exact .inr
      simp only [List.mem_cons, this]
theorem wipe_put {σ : St} {i : Nat} {o : Option V} {sl : List Nat} (h : i ∈ sl) : L2.wipe (σ.set i o) sl = L2.wipe σ sl := by
  apply List.ext_getElem?
  intro j
  rw [wipe_get, wipe_get, List.length_set]
  by_cases e : j ∈ sl
  · rw [if_pos e, if_pos e]
  · rw [if_neg e, if_neg e, List.getElem?_set_ne]
    rintro rfl
    exact e h
theorem wipe_twice {σ : St} {sl : List Nat} : L2.wipe (L2.wipe σ sl) sl = L2.wipe σ sl := by
  apply List.ext_getElem?
  intro j
  rw [wipe_get, wipe_get, wipe_length]
  by_cases e : j ∈ sl
  · rw [if_pos e, if_pos e]
  · simp only [if_neg e]

section
variable {W : Wo} {n m : Nat} {env stk : List E} {σ : St} {ds : List D} {vs : St} {us : List V} {H H' : Hp} {d x y : D} {v vx vy : V} {i : Nat}

theorem Wd.set (i : Nat) (w : Wd W n env σ (.d x :: stk) (some v :: vs) H) : Wd W n (env.set i (.d x)) (σ.set i (some v)) stk vs H := by
  obtain ⟨k, h, pp, M1, M2, a, nd, b, c⟩ := w
  obtain ⟨⟨u, e, r⟩, c⟩ := c
  cases e
  obtain ⟨M', s, q⟩ := EnvOk.put (.inl ⟨x, v, rfl, rfl, r⟩) i b
  have sub : ∀ p ∈ M' ++ M2, p ∈ M1 ++ M2 := fun p hp => by
    rcases List.mem_append.mp hp with z | z
    · exact List.mem_append_left _ (s.subset z)
    · exact List.mem_append_right _ z
  have es : Same (era H (W.M0 ++ (M1 ++ M2))) (era H (W.M0 ++ (M' ++ M2))) := era_less fun b hb => by
    rcases List.mem_append.mp hb with z | z
    · exact List.mem_append_left _ z
    · exact List.mem_append_right _ (sub b z)
  exact ⟨k, h, pp, M', M2, fun p hp => a p (sub p hp), (s.append (.refl M2)).nodup nd, q.mono es (Same.refl _), c.mono es (Same.refl _)⟩
theorem Wd.save (sl : List Nat) (w : Wd W n env σ (.d x :: stk) (some v :: vs) H) : Wd W n (wipeE (env.map hideE) sl) (L2.wipe σ sl) (.d x :: (env ++ stk)) (some v :: (σ ++ vs)) H := by
  obtain ⟨k, h, pp, M1, M2, a, nd, b, c⟩ := w
  exact ⟨k, h, pp, [], M1 ++ M2, a, nd, (EnvOk.hide b).wipe sl, c.1, EnvOk.app b c.2⟩
theorem Wd.back {env' : List E} {σ' : St} (l : σ.length = env.length) (w : Wd W n env' σ' (.d x :: (env ++ stk)) (some v :: (σ ++ vs)) H) : Wd W n env σ (.d x :: stk) (some v :: vs) H := by
  obtain ⟨k, h, pp, M1, M2, a, nd, b, c⟩ := w
  obtain ⟨c1, c2⟩ := c
  obtain ⟨Ma, Mb, e, ca, cb⟩ := EnvOk.cut l c2
  subst e
  have es : Same (era H (W.M0 ++ (M1 ++ (Ma ++ Mb)))) (era H (W.M0 ++ (Ma ++ Mb))) := era_less fun b hb => by
    rcases List.mem_append.mp hb with z | z
    · exact List.mem_append_left _ z
    · exact List.mem_append_right _ (List.mem_append_right _ z)
  refine ⟨k, h, pp, Ma, Mb, fun p hp => a p (List.mem_append_right _ hp), (List.nodup_append.mp nd).2.1, ca.mono es (Same.refl _), ?_, cb.mono es (Same.refl _)⟩
  obtain ⟨u, e, r⟩ := c1
  exact ⟨u, e, r.mono es⟩
theorem Wd.back0 {env' : List E} {σ' : St} (l : σ.length = env.length) (w : Wd W n env' σ' (env ++ stk) (σ ++ vs) H) : Wd W n env σ stk vs H :=
  (Wd.back (x := .non) (v := .non) l (w.push fun _ _ => .non)).pop
theorem Wd.envLen (w : Wd W n env σ stk vs H) : σ.length = env.length := by
  obtain ⟨k, h, pp, M1, M2, a, nd, b, c⟩ := w
  exact b.len
/-- a new list that is owned, on the stack -/
theorem Wd.newOwn (w : Wd W n env σ stk vs H) {p : Addr} (hp : H p = Option.none) : Wd W n env σ (.own [] :: stk) (some (.ref p) :: vs) (upd H p (.lst [])) := by
  have hid := w.hidH
  have w2 := w.mono (same_new (o := .lst []) hp)
  obtain ⟨k, h, pp, M1, M2, a, nd, b, c⟩ := w
  have e : Same H (upd H p (.lst [])) := same_new hp
  have np : p ∉ M1 ++ M2 := fun z => (a p z).2 hp
  have np0 : W.H0 p = Option.none := by
    cases q : W.H0 p with
    | none => rfl
    | some o =>
      by_cases z : W.P = some p
      · exact absurd hp ((pp p z).2.there)
      · rw [k p o z q] at hp; cases hp
  have e2 : Same (era H (W.M0 ++ (M1 ++ M2))) (era (upd H p (.lst [])) (W.M0 ++ (M1 ++ p :: M2))) := fun b o hb => by
    obtain ⟨h1, h2⟩ := era_some hb
    refine era_of (e _ _ h1) fun z => h2 ?_
    have nb : b ≠ p := ne_of_none h1 hp
    simp only [List.mem_append, List.mem_cons] at z ⊢
    rcases z with z | z | z | z
    · exact .inl z
    · exact .inr (.inl z)
    · exact absurd z nb
    · exact .inr (.inr z)
  refine ⟨w2.keep, h, w2.pot, M1, p :: M2, fun q hq => ?_, ?_, b.mono e2 e, ⟨[], rfl, upd_same, .nil⟩, c.mono e2 e⟩
  · by_cases z : q = p
    · subst z; exact ⟨np0, by rw [upd_same]; exact fun z => by cases z⟩
    · rw [upd_ne z]
      refine a q ?_
      simp only [List.mem_append, List.mem_cons] at hq ⊢
      rcases hq with hq | hq | hq
      · exact .inl hq
      · exact absurd hq z
      · exact .inr hq
  · refine (List.perm_middle.nodup_iff).mpr ?_
    exact List.nodup_cons.mpr ⟨np, nd⟩
theorem Wd.popOwn {xs : List D} {o : Option V} (w : Wd W n env σ (.own xs :: stk) (o :: vs) H) : Wd W n env σ stk vs H := by
  obtain ⟨k, h, pp, M1, M2, a, nd, b, c⟩ := w
  cases M2 with
  | nil => exact c.elim
  | cons p M2 =>
    have es : Same (era H (W.M0 ++ (M1 ++ p :: M2))) (era H (W.M0 ++ (M1 ++ M2))) := era_less fun b hb => by
      simp only [List.mem_append, List.mem_cons] at hb ⊢
      rcases hb with z | z | z
      · exact .inl z
      · exact .inr (.inl z)
      · exact .inr (.inr (.inr z))
    refine ⟨k, h, pp, M1, M2, fun q hq => a q ?_, ?_, b.mono es (Same.refl _), c.2.mono es (Same.refl _)⟩
    · simp only [List.mem_append, List.mem_cons] at hq ⊢
      rcases hq with z | z
      · exact .inl z
      · exact .inr (.inr z)
    · exact (List.nodup_cons.mp (List.perm_middle.nodup_iff.mp nd)).2
theorem Wd.freeze {xs : List D} {o : Option V} (w : Wd W n env σ (.own xs :: stk) (o :: vs) H) : Wd W n env σ (.d (.lst xs) :: stk) (o :: vs) H := by
  have w2 := w.popOwn
  obtain ⟨k, h, pp, M1, M2, a, nd, b, c⟩ := w
  cases M2 with
  | nil => exact c.elim
  | cons p M2 =>
    obtain ⟨⟨ws, e, hp, r⟩, c⟩ := c
    have nq := List.nodup_cons.mp (List.perm_middle.nodup_iff.mp nd)
    have es : Same (era H (W.M0 ++ (M1 ++ p :: M2))) (era H (W.M0 ++ (M1 ++ M2))) := era_less fun b hb => by
      simp only [List.mem_append, List.mem_cons] at hb ⊢
      rcases hb with z | z | z
      · exact .inl z
      · exact .inr (.inl z)
      · exact .inr (.inr (.inr z))
    refine ⟨k, h, pp, M1, M2, fun q hq => a q ?_, nq.2, b.mono es (Same.refl _), ⟨.ref p, e, .lst (era_of hp fun z => ?_) (r.mono es)⟩, c.mono es (Same.refl _)⟩
    · simp only [List.mem_append, List.mem_cons] at hq ⊢
      rcases hq with z | z
      · exact .inl z
      · exact .inr (.inr z)
    · rcases List.mem_append.mp z with z | z
      · exact w2.hid p z (a p (by simp)).1
      · exact nq.1 z
theorem Wd.append {xs : List D} {p : Addr} (w : Wd W n env σ (.d y :: .own xs :: stk) (some vy :: some (.ref p) :: vs) H) : ∃ ws, H p = some (.lst ws) ∧ ws.length = xs.length ∧ Wd W n env σ (.own (xs ++ [y]) :: stk) (some (.ref p) :: vs) (upd H p (.lst (ws ++ [vy]))) := by
  obtain ⟨k, h, pp, M1, M2, a, nd, b, c⟩ := w
  obtain ⟨⟨u, e, ry⟩, c⟩ := c
  cases e
  cases M2 with
  | nil => exact c.elim
  | cons p' M2 =>
    obtain ⟨⟨ws, e, hp, r⟩, c⟩ := c
    cases e
    have nq := List.nodup_cons.mp (List.perm_middle.nodup_iff.mp nd)
    have p0 := (a p (by simp)).1
    have hU : era (upd H p (.lst (ws ++ [vy]))) (W.M0 ++ (M1 ++ p :: M2)) = era H (W.M0 ++ (M1 ++ p :: M2)) := by
      funext b
      unfold era
      split
      · rfl
      · rename_i z
        rw [upd_ne]
        rintro rfl
        exact z (by simp)
    refine ⟨ws, hp, r.len, fun b o n q => ?_, h, fun q hq => ?_, M1, p :: M2, fun q hq => ⟨(a q hq).1, ?_⟩, nd, ?_, ⟨ws ++ [vy], rfl, upd_same, ?_⟩, ?_⟩
    · rw [upd_ne (by rintro rfl; rw [p0] at q; cases q)]; exact k b o n q
    · obtain ⟨z1, z2⟩ := pp q hq
      refine ⟨z1, ?_⟩
      obtain ⟨a1, b1, c1, z3, z4⟩ := z2
      refine ⟨a1, b1, c1, ?_, z4⟩
      rw [upd_ne (by rintro rfl; exact h _ z1 p0)]; exact z3
    · by_cases z : q = p
      · subst z; rw [upd_same]; exact fun z => by cases z
      · rw [upd_ne z]; exact (a q hq).2
    · rw [hU]
      exact EnvOk.mono2 (Same.refl _) (fun q hq o z => by rw [upd_ne (by rintro rfl; exact nq.1 (List.mem_append_left _ hq))]; exact z) b
    · rw [hU]
      exact r.app (.cons ry .nil)
    · rw [hU]
      exact EnvOk.mono2 (Same.refl _) (fun q hq o z => by rw [upd_ne (by rintro rfl; exact nq.1 (List.mem_append_right _ hq))]; exact z) c
end
end FR
namespace FR
open PySem L2

/-! ## statements -/
structure Out where
  nx : List E → Nat → Prop
  rt : D → Nat → Prop
  bk : List E → Nat → Prop := fun _ _ => False
  ct : List E → Nat → Prop := fun _ _ => False

structure Fits (W : Wo) (O : Out) (stk : List E) (vs : St) (De : Ends) : Prop where
  nx : ∀ σ H env n, O.nx env n → Wd W n env σ stk vs H → De.nx σ H
  rt : ∀ v d n H env σ, O.rt d n → Wd W n env σ (.d d :: stk) (some v :: vs) H → De.rt v H
  bk : ∀ σ H env n, O.bk env n → Wd W n env σ stk vs H → De.bk σ H
  ct : ∀ σ H env n, O.ct env n → Wd W n env σ stk vs H → De.ct σ H

def WpS (W : Wo) (t : TS) (n : Nat) (env : List E) (O : Out) : Prop := ∀ σ stk vs H De, Wd W n env σ stk vs H → Fits W O stk vs De → t De σ H
/-- a target: L the slots that it may change -/
def WpG (W : Wo) (g : TG) (L : List Nat) (d : D) (n : Nat) (env : List E) (Φ : List E → Nat → Prop) : Prop := ∀ σ stk vs v H (Q : St → Hp → Prop), Wd W n env σ (.d d :: stk) (some v :: vs) H →
  (∀ σ' env' n' H', (∀ sl, (∀ i ∈ L, i ∈ sl) → L2.wipe σ' sl = L2.wipe σ sl) → Φ env' n' → Wd W n' env' σ' stk vs H' → Q σ' H') → g v σ H Q
def WpGs (W : Wo) (g : TGs) (L : List Nat) (ds : List D) (n : Nat) (env : List E) (Φ : List E → Nat → Prop) : Prop := ∀ σ stk vs us H (Q : St → Hp → Prop), us.length = ds.length → Wd W n env σ (ds.map E.d ++ stk) (us.map some ++ vs) H →
  (∀ σ' env' n' H', (∀ sl, (∀ i ∈ L, i ∈ sl) → L2.wipe σ' sl = L2.wipe σ sl) → Φ env' n' → Wd W n' env' σ' stk vs H' → Q σ' H') → g us σ H Q

section
variable {W : Wo} {n m : Nat} {env stk : List E} {σ : St} {ds : List D} {vs : St} {us : List V} {H H' : Hp} {d x y : D} {v vx vy : V} {i : Nat} {O : Out} {te : TE} {tt : TT} {t u : TS} {g : TG} {gs : TGs} {L L' : List Nat} {Ψ : List E → Nat → Prop}
theorem ws_seq (q : WpS W t n env { O with nx := fun env' n' => WpS W u n' env' O }) : WpS W (tSeq t u) n env O := fun σ stk vs H De w f =>
  q σ stk vs H { De with nx := u De } w ⟨fun σ' H' env' n' q' w' => q' σ' stk vs H' De w' f, f.rt, f.bk, f.ct⟩
theorem ws_next (q : O.nx env n) : WpS W tNext n env O := fun σ stk vs H De w f => f.nx σ H env n q w
theorem ws_drop (q : Wp W te n env fun _ n' => O.nx env n') : WpS W (tDrop te) n env O := fun σ stk vs H De w f =>
  q σ stk vs H _ w fun v d n' H' q' w' => f.nx σ H' env n' q' w'.pop
theorem ws_ret (q : Wp W te n env O.rt) : WpS W (tRet te) n env O := fun σ stk vs H De w f =>
  q σ stk vs H _ w fun v d n' H' q' w' => f.rt v d n' H' env σ q' w'
theorem ws_retN (q : O.rt .non n) : WpS W tRetN n env O := fun σ stk vs H De w f => f.rt .non .non n H env σ q (w.push fun _ _ => .non)
theorem ws_if (q : WpT W tt n env fun b n' => if b = true then WpS W t n' env O else WpS W u n' env O) : WpS W (tIfS tt t u) n env O := fun σ stk vs H De w f =>
  q σ stk vs H _ w fun b n' H' q' w' => by
    cases b with
    | true => exact q' σ stk vs H' De w' f
    | false => exact q' σ stk vs H' De w' f
theorem ws_asg (q : Wp W te n env fun d n' => WpG W g L d n' env O.nx) : WpS W (tAsg te g) n env O := fun σ stk vs H De w f =>
  q σ stk vs H _ w fun v d n1 H1 q1 w1 => q1 σ stk vs v H1 _ w1 fun σ' env' n' H' _ q' w' => f.nx σ' H' env' n' q' w'
theorem ws_break (q : O.bk env n) : WpS W tBreak n env O := fun σ stk vs H De w f => f.bk σ H env n q w
theorem ws_cont (q : O.ct env n) : WpS W tCont n env O := fun σ stk vs H De w f => f.ct σ H env n q w
theorem WpS.mono {O' : Out} (h : WpS W t n env O) (h1 : ∀ e n, O.nx e n → O'.nx e n) (h2 : ∀ e n, O.rt e n → O'.rt e n) (h3 : ∀ e n, O.bk e n → O'.bk e n) (h4 : ∀ e n, O.ct e n → O'.ct e n) : WpS W t n env O' := fun σ stk vs H De w f =>
  h σ stk vs H De w ⟨fun a b c d e => f.nx a b c d (h1 _ _ e), fun a b c d e g p => f.rt a b c d e g (h2 _ _ p), fun a b c d e => f.bk a b c d (h3 _ _ e), fun a b c d e => f.ct a b c d (h4 _ _ e)⟩
theorem WpS.le (h : WpS W t m env O) (l : n ≤ m) : WpS W t n env O := fun σ stk vs H De w f => h σ stk vs H De (w.le l) f
theorem Wp.le {Φ : D → Nat → Prop} (h : Wp W te m env Φ) (l : n ≤ m) : Wp W te n env Φ := fun σ stk vs H Q w f => h σ stk vs H Q (w.le l) f

theorem wg_name (q : Ψ (env.set i (.d d)) n) : WpG W (gName i) [i] d n env Ψ := fun σ stk vs v H Q w k =>
  k _ _ n H (fun sl h => wipe_put (h i (by simp))) q (w.set i)
theorem wgs_nil (q : Ψ env n) : WpGs W gNil [] [] n env Ψ := fun σ stk vs us H Q l w k => by
  cases us with
  | nil => exact ⟨rfl, k σ env n H (fun _ _ => rfl) q w⟩
  | cons _ _ => simp at l
theorem wgs_cons (q : WpG W g L d n env fun env1 n1 => WpGs W gs L' ds n1 env1 Ψ) : WpGs W (gCons g gs) (L ++ L') (d :: ds) n env Ψ := fun σ stk vs us H Q l w k => by
  cases us with
  | nil => simp at l
  | cons v us =>
    refine ⟨v, us, rfl, q σ (ds.map E.d ++ stk) (us.map some ++ vs) v H _ w fun σ1 env1 n1 H1 s1 q1 w1 => ?_⟩
    refine q1 σ1 stk vs us H1 Q (by simpa using l) w1 fun σ2 env2 n2 H2 s2 q2 w2 => k σ2 env2 n2 H2 (fun sl h => ?_) q2 w2
    rw [s2 sl fun i hi => h i (List.mem_append_right _ hi), s1 sl fun i hi => h i (List.mem_append_left _ hi)]
theorem wg_tup {k : Nat} (hl : ds.length = k) (q : WpGs W gs L ds n env Ψ) : WpG W (gTup W.K k gs) L (.tup ds) n env Ψ := fun σ stk vs v H Q w kk => by
  have t := w.top
  have w0 := w
  obtain ⟨k1, h1, pp, M1, M2, a, nd, b, c⟩ := w
  obtain ⟨⟨u, e, r⟩, c⟩ := c
  cases e
  cases r with
  | tup hs hr =>
    refine ⟨_, _, rfl, same_sqT (era_sub _ _) hs, ?_, ?_⟩
    · rw [hr.len]; exact hl
    · exact q σ stk vs _ H Q hr.len ⟨k1, h1, pp, M1, M2, a, nd, b, EnvOk.ofL hr c⟩ kk

/-! ## what is walked -/
structure ItD (K : PySem.W.Frag) (J : It) (ds : List D) (stk2 : List D) (vs2 : List V) : Prop where
  ex : ∃ (G : Hp → Prop) (Y : Nat → Hp → V → Hp → Prop), Walk J ds.length G Y ∧ (∀ H, RpL K H vs2 stk2 → G H) ∧
    ∀ i H x H', i < ds.length → RpL K H vs2 stk2 → Y i H x H' → ∃ d, ds[i]? = some d ∧ Same H H' ∧ ∀ M : List Addr, (∀ p ∈ M, H p ≠ Option.none) → RpL K (era H M) vs2 stk2 → Rp K (era H' M) x d
def WpI (W : Wo) (wi : TI) (n : Nat) (env : List E) (Φ : List D → Nat → Prop) : Prop := ∀ σ stk vs H (R : It → Hp → Prop), Wd W n env σ stk vs H →
  (∀ J ds n' H' stk2 vs2, Φ ds n' → vs2.length = stk2.length → Wd W n' env σ (stk2.map E.d ++ stk) (vs2.map some ++ vs) H' → ItD W.K J ds stk2 vs2 → R J H') → wi σ H R

theorem Wd.yield {J : It} {stk2 : List D} {vs2 : List V} (hJ : ItD W.K J ds stk2 vs2) {stk1 : List E} {vs1 : St}
    (l : vs2.length = stk2.length) (w : Wd W n env σ (stk1 ++ (stk2.map E.d ++ stk)) (vs1 ++ (vs2.map some ++ vs)) H) (l1 : vs1.length = stk1.length) :
    ∃ (G : Hp → Prop) (Y : Nat → Hp → V → Hp → Prop), Walk J ds.length G Y ∧ G H ∧ ∀ i x H', i < ds.length → Y i H x H' → ∃ d, ds[i]? = some d ∧ Wd W n env σ (.d d :: (stk1 ++ (stk2.map E.d ++ stk))) (some x :: (vs1 ++ (vs2.map some ++ vs))) H' := by
  obtain ⟨G, Y, hw, hG, hY⟩ := hJ.ex
  have hid := w.hidH
  have w0 := w
  obtain ⟨k1, h1, pp, M1, M2, a, nd, b, c⟩ := w
  obtain ⟨Ma, Mb, e, ca, cb⟩ := EnvOk.cut l1 c
  have rl := (EnvOk.toL l cb).1
  refine ⟨G, Y, hw, hG H (rl.mono (era_sub _ _)), fun i x H' hi y => ?_⟩
  obtain ⟨d, e1, s, r⟩ := hY i H x H' hi (rl.mono (era_sub _ _)) y
  refine ⟨d, e1, ?_⟩
  refine ⟨fun b o n q => s _ _ (k1 b o n q), h1, fun q hq => ⟨(pp q hq).1, (pp q hq).2.mono s⟩, M1, M2, fun q hq => ⟨(a q hq).1, fun z => ?_⟩, nd, b.mono (era_mono _ s) s, ⟨x, rfl, ?_⟩, c.mono (era_mono _ s) s⟩
  · cases rr : H q with
    | none => exact (a q hq).2 rr
    | some o => rw [s _ _ rr] at z; cases z
  · refine r _ (fun p hp => ?_) rl
    rcases List.mem_append.mp hp with z | z
    · exact hid p z
    · exact (a p z).2

theorem ws_for {wi : TI} {tb : TS} (q : WpI W wi n env fun ds n1 => ∃ I : Nat → List E → Nat → Prop, I 0 env n1 ∧
      (∀ i d env' m, ds[i]? = some d → I i env' m → WpG W g L d m env' fun env2 m2 => WpS W tb m2 env2 { nx := I (i + 1), ct := I (i + 1), bk := O.nx, rt := O.rt }) ∧
      ∀ env' m, I ds.length env' m → O.nx env' m) : WpS W (tFor wi g tb) n env O := fun σ stk vs H De w f =>
  q σ stk vs H _ w fun J ds n1 H1 stk2 vs2 q1 l2 w1 hJ => by
    obtain ⟨I, i0, it, ie⟩ := q1
    obtain ⟨G, Y, hw, hG0, hY0⟩ := Wd.yield (stk1 := []) (vs1 := []) hJ l2 w1 rfl
    clear hG0 hY0 hw G Y
    obtain ⟨G, Y, hw, hG, hY⟩ := hJ.ex
    refine for_it (J := J) (n := ds.length) hw (fun i σ H => ∃ env m, I i env m ∧ Wd W m env σ (stk2.map E.d ++ stk) (vs2.map some ++ vs) H) ⟨env, n1, i0, w1⟩ ?_ ?_ ?_
    · rintro i σ' H' hi ⟨env', m, hI, w'⟩
      exact hG H' (w'.sees l2)
    · rintro i x σ' H' H2 hi ⟨env', m, hI, w'⟩ y
      obtain ⟨d, e1, s, r⟩ := hY i H' x H2 hi (w'.sees l2) y
      have w2 : Wd W m env' σ' (.d d :: (stk2.map E.d ++ stk)) (some x :: (vs2.map some ++ vs)) H2 := by
        have hid := w'.hidH
        obtain ⟨k1, h1, pp, M1, M2, a, nd, b, c⟩ := w'
        have rl := (EnvOk.toL l2 c).1
        refine ⟨fun b o n q => s _ _ (k1 b o n q), h1, fun q hq => ⟨(pp q hq).1, (pp q hq).2.mono s⟩, M1, M2, fun q hq => ⟨(a q hq).1, fun z => ?_⟩, nd, b.mono (era_mono _ s) s, ⟨x, rfl, ?_⟩, c.mono (era_mono _ s) s⟩
        · cases rr : H' q with
          | none => exact (a q hq).2 rr
          | some o => rw [s _ _ rr] at z; cases z
        · refine r _ (fun p hp => ?_) rl
          rcases List.mem_append.mp hp with z | z
          · exact hid p z
          · exact (a p z).2
      refine it i d env' m e1 hI σ' _ _ x H2 _ w2 fun σ3 env3 m3 H3 _ q3 w3 => ?_
      refine q3 σ3 _ _ H3 _ w3 ⟨fun σ4 H4 env4 m4 q4 w4 => ⟨env4, m4, q4, w4⟩, fun v d n H env σ q4 w4 => ?_, fun σ4 H4 env4 m4 q4 w4 => f.nx σ4 H4 env4 m4 q4 (w4.pops l2), fun σ4 H4 env4 m4 q4 w4 => ⟨env4, m4, q4, w4⟩⟩
      refine f.rt v d n H env σ q4 ?_
      have w5 := Wd.swap l2 (ds := stk2) (us := vs2) (d := d) (v := v) (stk := stk) (vs := vs) (W := W) (n := n) (env := env) (σ := σ) (H := H)
      have w6 : Wd W n env σ ((d :: stk2).map E.d ++ stk) ((v :: vs2).map some ++ vs) H := w4
      exact Wd.restk (ds := d :: stk2) (us := v :: vs2) (ds' := [d]) (us' := [v]) w6 (by simp [l2]) fun U _ r => by
        cases r with
        | cons r _ => exact .cons r .nil
    · rintro σ' H' ⟨env', m, hI, w'⟩
      exact f.nx σ' H' env' m (ie env' m hI) (w'.pops l2)

/-! ## comprehensions -/
theorem wp_lc {wi : TI} {sl : List Nat} {Φ : D → Nat → Prop} (hL : ∀ i ∈ L, i ∈ sl) (q : WpI W wi n env fun ds n1 => ∃ I : Nat → List D → Nat → Prop, I 0 [] n1 ∧ ds.length ≤ sizeLine ∧
      (∀ i d acc m, ds[i]? = some d → I i acc m → WpG W g L d m (wipeE (env.map hideE) sl) fun env2 m2 => WpT W tt m2 env2 fun b m3 => if b = true then Wp W te m3 env2 (fun y m4 => I (i + 1) (acc ++ [y]) m4) else I (i + 1) acc m3) ∧
      ∀ acc m, I ds.length acc m → acc.length ≤ ds.length → Φ (.lst acc) m) : Wp W (tLc wi g tt te sl) n env Φ := fun σ stk vs H Q w k =>
  q σ stk vs H _ w fun J ds n1 H1 stk2 vs2 q1 l2 w1 hJ => by
    obtain ⟨I, i0, hsz, it, ie⟩ := q1
    intro Da hDa
    obtain ⟨G, Y, hw, hG, hY⟩ := hJ.ex
    have wn := w1.newOwn hDa
    refine lc_it (J := J) (n := ds.length) hw (fun i H => ∃ acc m, I i acc m ∧ acc.length ≤ i ∧ Wd W m env σ (.own acc :: (stk2.map E.d ++ stk)) (some (.ref Da) :: (vs2.map some ++ vs)) H) ⟨[], n1, i0, Nat.le_refl _, wn⟩ ?_ ?_ ?_
    · rintro i H' hi ⟨acc, m, hI, hl, w'⟩
      exact hG H' (w'.popOwn.sees l2)
    · rintro i x H' H2 hi ⟨acc, m, hI, hl, w'⟩ y
      obtain ⟨d, e1, s, r⟩ := hY i H' x H2 hi (w'.popOwn.sees l2) y
      have w2 : Wd W m env σ (.d d :: (.own acc :: (stk2.map E.d ++ stk))) (some x :: (some (.ref Da) :: (vs2.map some ++ vs))) H2 := by
        have hid := w'.hidH
        obtain ⟨k1, h1, pp, M1, M2, a, nd, b, c⟩ := w'
        cases M2 with
        | nil => exact c.elim
        | cons p M2 =>
          have rl := (EnvOk.toL l2 c.2).1
          refine ⟨fun b o n q => s _ _ (k1 b o n q), h1, fun q hq => ⟨(pp q hq).1, (pp q hq).2.mono s⟩, M1, p :: M2, fun q hq => ⟨(a q hq).1, fun z => ?_⟩, nd, b.mono (era_mono _ s) s, ⟨x, rfl, ?_⟩, EnvOk.mono (env := .own acc :: (stk2.map E.d ++ stk)) (σ := some (.ref Da) :: (vs2.map some ++ vs)) (era_mono _ s) s c⟩
          · cases rr : H' q with
            | none => exact (a q hq).2 rr
            | some o => rw [s _ _ rr] at z; cases z
          · refine r _ (fun p hp => ?_) rl
            rcases List.mem_append.mp hp with z | z
            · exact hid p z
            · exact (a p z).2
      have lenv := w2.envLen
      have w3 := w2.save sl
      refine it i d acc m e1 hI (L2.wipe σ sl) _ _ x H2 _ w3 fun σ3 env3 m3 H3 s3 q3 w4 => ⟨(s3 sl hL).trans wipe_twice, ?_⟩
      refine q3 σ3 _ _ H3 _ w4 fun b m4 H4 q4 w5 => ?_
      cases b with
      | false => exact ⟨acc, m4, q4, by omega, w5.back0 lenv⟩
      | true =>
        refine q4 σ3 _ _ H4 _ w5 fun vy y m5 H5 q5 w6 => ?_
        obtain ⟨ws, h5, l5, w7⟩ := (w6.back lenv).append
        refine ⟨ws, h5, by omega, acc ++ [y], m5, q5, by simp; omega, w7⟩
    · rintro H' ⟨acc, m, hI, hl, w'⟩
      have w2 := w'.freeze
      refine k _ _ m H' (ie acc m hI hl) ?_
      have w6 : Wd W m env σ ((.lst acc :: stk2).map E.d ++ stk) ((.ref Da :: vs2).map some ++ vs) H' := w2
      exact Wd.restk (ds := .lst acc :: stk2) (us := .ref Da :: vs2) (ds' := [.lst acc]) (us' := [.ref Da]) w6 (by simp [l2]) fun U _ r => by
        cases r with
        | cons r _ => exact .cons r .nil
end
end FR
namespace FR
open PySem PySem.Spec PyProof.Rows L2

/-! ## defs whose promise may lean on it that no repr is under way -/
structure FnG (P : Program) (w : World) (K : PySem.W.Frag) (mg : Str → Option Value) (base : Heap) (k : Nat) (f : Addr) (fd : FuncData) (ps : List Str) (sp : Sp) : Prop where
  len : ∀ vs H Q E, sp vs H Q E → vs.length = ps.length
  run : ∀ (B : Around) (out : List Env) (t : Shared) (H : Hp) (args : Args) (us : List Value) (vs : List V) (Q : VK) (E : XK),
    B.guards = some [] → Room k B → Env0 P w K mg base B out t H → BindsTo t fd args (ps.zip us) → Vals vs us → sp vs H Q E →
      codeAny (model P w) B (.call (.ref f) args) (CR CX0 out P w H t Q E) t

section
variable {P : Program} {w : World} {K : PySem.W.Frag} {mg : Str → Option Value} {base : Heap} {k : Nat} {f : Addr} {fd : FuncData} {ps : List Str} {sp : Sp}
theorem FnG.of (F : FnOk P w K mg base CX0 k f fd ps sp) : FnG P w K mg base k f fd ps sp :=
  ⟨F.len, fun B out t H args us vs Q E _ hr he hb hv hs => F.run B out t H args us vs Q E hr he hb hv hs⟩
theorem FnG.mono {j : Nat} (F : FnG P w K mg base j f fd ps sp) (h : j ≤ k) : FnG P w K mg base k f fd ps sp :=
  ⟨F.len, fun B out t H args us vs Q E g hr he hb hv hs => F.run B out t H args us vs Q E g (hr.mono h) he hb hv hs⟩

theorem fnG_of {name qual : Str} {st : Stmt} {N : List Str} (F : Fun K name qual st f fd) (S : FnScope N ps (defScope st)) (len : ∀ vs H Q E, sp vs H Q E → vs.length = ps.length)
    (hbody : ∀ (cdv : Value) (B : Around) (out : List Env) (t : Shared) (H : Hp) (vs : List V) (Q : VK) (E : XK),
      B.guards = some [] → Room k (B.deeper (envOfC qual (defScope st) t.heap.objs.size f cdv)) → sp vs H Q E →
      ∃ r, PSs (cxOf CX0 P w K mg base N qual (defScope st) f cdv B out t H E).nox (defBody st) r ∧ r { nx := fun _ H' => Q .non H', rt := Q } (start N vs) H) :
    FnG P w K mg base (k + 1) f fd ps sp := by
  obtain ⟨oc, od, kV, doc, pm, an, cdv, ct, osl, rfl, lk, hcd⟩ := F.ex
  refine ⟨len, fun B out t H args us vs Q E hgu hr e0 hb rv hsp => ?_⟩
  have KH : K.In t.heap := e0.mod.kin.keeps fun c o q => (e0.bs c o q).1
  have noL : t.heap.NoLimit := e0.mod.nolimit.keeps fun c o q => (e0.bs c o q).1
  refine codeAny_call_function hr.depth (KH _ _ lk) rfl S.co S.gen rfl (PySem.W.codeRec_of KH hcd) (hb _ _ _ _ ?_)
  refine wpAny_newFunctionEnv_cells S.kind (fun ⟨nm, val⟩ hy => ?_) fun en hen t1 ic => ?_
  · rcases S.par nm (List.of_mem_zip hy).1 with z | z
    · exact .inl z
    · exact .inr ⟨z, PySem.W.cellsFrom_some _ _ _ (.inl z)⟩
  · subst hen
    refine ⟨noL.keeps ic.toInCall.keep, codeAny_func ?_⟩
    obtain ⟨r, hr1, hr2⟩ := hbody cdv B out t H vs Q E hgu (hr.deeper _) hsp
    have I0 : Inv (cxOf CX0 P w K mg base N qual (defScope st) f cdv B out t H E) [] (start N vs) H t1 := inv_start S hr.hd e0 (len _ _ _ _ hsp) rv ic
    refine wpAny_mono (hr1.nox.run [] t1 (start N vs) H _ I0 hr2) (fun fl t2 hq => ?_) fun e t2 hq => hq
    cases fl with
    | ret u =>
      obtain ⟨v, τ, H2, J, ru, q⟩ := hq
      exact ⟨v, H2, J.os, J.bare, J.base, J.hok, ru, q⟩
    | next =>
      obtain ⟨τ, H2, J, q⟩ := hq
      exact ⟨V.non, H2, J.os, J.bare, J.base, J.hok, rfl, q⟩
    | brk => obtain ⟨_, _, _, q⟩ := hq; exact q.elim
    | cont => obtain ⟨_, _, _, q⟩ := hq; exact q.elim
end

section
variable {X : Cx} {k : Nat} {f : Addr} {fd : FuncData} {ps : List Str} {sp : Sp} {x : Str} {p pos : Pos} {e : Expr} {es : List Expr} {t : TA}
theorem pe_callG (F : FnG X.prog X.w X.K X.mg X.base k f fd ps sp) (gu : X.A.guards = some []) (hr : Room k X.A) (hg : Gl X x) (hm : X.mg x = some (.ref f)) (hk : PySem.W.keepIn X.K (.ref f) = true) (hb : Binds X.K fd ps [])
    (ha : PA X (e :: es) t) (hdb : (x == ("__debug__" : Str)) = false := by decide) (he : starEach (e :: es) X.env = (false, eval e X.env) :: starEach es X.env := by rfl) (hpl : (backTo pos (starEach es X.env)).any (·.1) = false := by rfl) :
    PE X (.Call (.Name x p) (e :: es) [] pos) (tCall sp [] E0 t) := by
  refine ⟨fun pins s σ H Q I h => ?_⟩
  refine wpAny_Call_Name_kw (ld_glob I hg hm ?_ hdb)
  refine PySem.W.callWith_K (h₀ := X.base) I.ok.mod.kin hk (thn (ha.run pos pins s σ H _ I h) fun us s1 ⟨vs, H1, I1, r, q⟩ => ⟨I1.kIn, ?_⟩) he hpl
  have r2 : Vals (vs ++ []) (us ++ []) := r.append .nil
  have ll : (us ++ ([] : List Value)).length = ps.length := by rw [← r2.length]; exact F.len _ _ _ _ q
  refine wpAny_call (codeAny_mono (F.run X.A X.stack s1 H1 ⟨us, []⟩ (us ++ []) (vs ++ []) Q E0 gu hr I1.env0 (hb s1 us I1.kIn ll) r2 q) fun rr s2 hq => ?_)
  cases rr with
  | error e => exact hq.elim
  | ok fl =>
    cases fl with
    | ret u => exact I1.after hq
    | next => exact hq.elim
    | brk => exact hq.elim
    | cont => exact hq.elim
end

/-! ## the law's own call -/
def SysB (base : Heap) : Prop := ∃ o, base.get? sysModules = some o
theorem law_callG {P : Program} {w : World} {K : PySem.W.Frag} {mg mb : Str → Option Value} {k : Nat} {fa a : Addr} {fd : FuncData} {x : Str} {sp : Sp} {t1 : Shared} {vs : List Value} {ns : List Int}
    (KX : K.In t1.heap) (hns : t1.heap.Ns mainGlobals mg) (hb : t1.heap.Ns builtinsNs mb) (hbb : ∀ x : Str, x ≠ "__name__" → mb x = bootBuiltins x) (hlim : t1.heap.NoLimit) (hg : t1.gens = #[])
    (ha : t1.heap.get? a = some { cls := .type "list", data := .seq vs.toArray }) (hi : IntsAre vs ns) (hl : ns.length ≤ sizeLine) (hr : Room k callerA)
    (hsys : ∃ mm, t1.heap.Ns sysModules mm) (F : ∀ base : Heap, K.In base → base.Ns mainGlobals mg → SysB base → FnG P w K mg base k fa fd [x] sp) (hbind : ∀ (s : Shared) (u : Value), BindsTo s fd ⟨[u], []⟩ [(x, u)])
    (hsp : ∀ H : Hp, Only H → SqL K H a (ns.map V.int) → sp [.ref a] H (fun v _ => v = .bl true) fun _ _ _ => False) :
    codeAny (model P w) callerA (.call (.ref fa) ⟨[.ref a], []⟩) (fun r s' => r = .ok (.ret (.bool true)) ∧ OldK t1.heap s'.heap ∧ s'.os = t1.os ∧ AllBare s'.gens) t1 := by
  have main : ∀ H : Hp, Only H → SqL K H a (ns.map V.int) → HOk P w H t1.heap → (∀ c, H c ≠ none → c = a) → (H a ≠ none → K.lookup a = none) →
      codeAny (model P w) callerA (.call (.ref fa) ⟨[.ref a], []⟩) (fun r s' => r = .ok (.ret (.bool true)) ∧ OldK t1.heap s'.heap ∧ s'.os = t1.os ∧ AllBare s'.gens) t1 := by
    intro H hO hS hok hA hK
    have dfree : ∀ {c : Addr} {o : Obj} {es : Array DictEntry} {ep : Nat}, t1.heap.get? c = some o → o.data = .dict es ep → H c = none := by
      intro c o es ep q dd
      cases z : H c with
      | none => rfl
      | some u =>
        obtain rfl : c = a := hA c (by rw [z]; exact fun y => nomatch y)
        rw [ha] at q
        cases q
        exact nomatch (show Data.seq vs.toArray _ = Data.dict es ep from dd)
    have nsB : ∀ {c : Addr} {m : Str → Option Value}, t1.heap.Ns c m → (hidT t1.heap H).Ns c m := fun ⟨o, es, ep, q, dd, r⟩ => ⟨o, es, ep, hidT_get q (dfree q dd), dd, r⟩
    have kB : K.In (hidT t1.heap H) := fun c o q => hidT_get (KX c o q) (by
      cases z : H c with
      | none => rfl
      | some u =>
        obtain rfl : c = a := hA c (by rw [z]; exact fun y => nomatch y)
        rw [hK (by rw [z]; exact fun y => nomatch y)] at q
        exact nomatch q)
    have e0 : Env0 P w K mg (hidT t1.heap H) callerA [] t1 H :=
      ⟨rfl, ⟨kB, nsB hns, ⟨mb, nsB hb, hbb⟩, let ⟨mc, h1, h2⟩ := hlim; ⟨mc, nsB h1, h2⟩⟩, fun c o q => of_hidT q, Nat.le_of_eq (hidT_size _ _), trivial, fun c hc => (nomatch (show c ∈ ([] : List Addr) from hc)), hok, .of_eq hg⟩
    obtain ⟨mm, hmm⟩ := hsys
    have sysb : SysB (hidT t1.heap H) := let ⟨o, _, _, e, _⟩ := nsB hmm; ⟨o, e⟩
    refine codeAny_mono ((F _ kB (nsB hns) sysb).run callerA [] t1 H ⟨[.ref a], []⟩ [.ref a] [.ref a] _ _ rfl hr e0 (hbind t1 (.ref a)) (.cons rfl .nil) (hsp H hO hS)) fun r s2 h => ?_
    cases r with
    | error e => exact h.elim
    | ok fl =>
      cases fl with
      | next => exact h.elim
      | brk => exact h.elim
      | cont => exact h.elim
      | ret u =>
        obtain ⟨v, H2, os, bare, un, hok2, ru, q⟩ := h
        obtain rfl : v = .bl true := q
        obtain rfl : u = Value.bool true := ru
        refine ⟨rfl, OldK.of_keep fun c o e => ?_, os, bare⟩
        cases z : H c with
        | none => exact un.keep c o e z (fun y => nomatch (show c ∈ ([] : List Addr) from y)) (fun y => nomatch y)
        | some u =>
          rcases hO c with y | ⟨ob, xs, y⟩
          · rw [z] at y; exact nomatch y
          · obtain ⟨e1, _⟩ := hok c _ y
            obtain ⟨e2, _⟩ := hok2 c _ (un.frzs c ob _ y)
            rw [e] at e1; cases e1
            exact e2
  have rv := vals_ints hi
  cases hk : K.lookup a with
  | some o =>
    have q := KX a o hk
    rw [ha] at q
    cases q
    exact main (fun _ => none) (fun _ => .inl rfl) (.inr ⟨_, vs.toArray, _, hk, rfl, rfl, rfl, by rw [List.size_toArray, hi.length]; exact hl, by simpa using rv⟩)
      (fun c u z => nomatch (show (none : Option HO) = some u from z)) (fun c z => absurd rfl z) fun z => absurd rfl z
  | none =>
    refine main (fun c => if c = a then some (.frz { cls := .type "list", data := .seq vs.toArray } (.lst (ns.map V.int))) else none) (fun c => ?_)
      (.inl (.inr ⟨{ cls := .type "list", data := .seq vs.toArray }, if_pos rfl⟩)) (fun c u z => ?_) (fun c z => ?_) fun _ => hk
    · by_cases hc : c = a
      · exact .inr ⟨_, _, if_pos hc⟩
      · exact .inl (if_neg hc)
    · by_cases hc : c = a
      · have y := (if_pos hc).symm.trans z
        cases y
        subst hc
        exact ⟨ha, by rw [List.length_map]; exact hl, vs, _, rv, ha⟩
      · exact nomatch (if_neg hc).symm.trans z
    · by_cases hc : c = a
      · exact hc
      · exact absurd (if_neg hc) z

theorem walkG {l : PySem.W.OpenLaw} {n k : Nat} {q : Program} {loose : List Str} {XP : (Str → Option Value) → Heap → Prop} {YP : World → Heap → Prop} {d : DefRec} {K : Params → PySem.W.Frag} {sp : World → Sp} {x : Str}
    (hn : l.most = some n) (hn2 : n ≤ sizeLine) (hdf : d.params.defaults = []) (hr : Room k callerA) (himp : importsNone q = true) (hY : ∀ (w : World) (h : Heap), YP w h → (K w.params).In h)
    (F : ∀ (w : World) (mg : Str → Option Value) (fa : Addr) (h : Heap), (K w.params).In h → h.Ns mainGlobals mg → mg d.name = some (.ref fa) →
      ∃ fd : FuncData, (∀ (s : Shared) (u : Value), BindsTo s fd ⟨[u], []⟩ [(x, u)]) ∧
        ∀ base : Heap, (K w.params).In base → base.Ns mainGlobals mg → SysB base → FnG l.prog w (K w.params) mg base k fa fd [x] (sp w))
    (hsp : ∀ (w : World) (H : Hp) (a : Addr) (ns : List Int), ns.length ≤ n → Only H → SqL (K w.params) H a (ns.map V.int) → sp w [.ref a] H (fun v _ => v = .bl true) fun _ _ _ => False) :
    PySem.W.WalkO q loose XP YP l.row.toRowW d [] (fun f vs => PySem.call f vs) := by
  refine Att.attach_call hn hdf fun w s0 t1 mg mb fa o pm cd doc a vs ns G Y ho hd hcd hmg hobj hints hlen hg => ?_
  obtain ⟨fd, hb, hF⟩ := F w mg fa _ (hY w _ Y) G.T.g hmg
  exact law_callG (hY w _ Y) G.T.g G.T.b G.T.builtins G.T.nolimit hg hobj hints (Nat.le_trans hlen hn2) hr (let ⟨mm, h, _⟩ := (G.T.seer himp).mods; ⟨mm, h⟩) hF hb fun H hO hS => hsp w H a ns hlen hO hS
end FR
namespace FR
open PySem PySem.Spec PyProof.Rows L2

/-! ## data as the library reads them -/
def keyP : Key → PyData
  | .inl i => .int i
  | .inr x => .str x
mutual
def py : D → PyData
  | .non => .none
  | .bl b => .bool b
  | .int i => .int i
  | .str x => .str x
  | .lst xs => .list (pyL xs)
  | .tup xs => .tuple (pyL xs)
  | .dct kvs => .dict (pyK kvs)
  | .ty _ => .none
  | .lsq xs => .list (pyL xs)
def pyL : List D → List PyData
  | [] => []
  | x :: xs => py x :: pyL xs
def pyK : List (Key × D) → List (PyData × PyData)
  | [] => []
  | (k, x) :: xs => (keyP k, py x) :: pyK xs
end
mutual
/-- no class among it -/
def noTy : D → Bool
  | .ty _ => false
  | .lsq _ => false
  | .lst xs => noTyL xs
  | .tup xs => noTyL xs
  | .dct kvs => noTyK kvs
  | _ => true
def noTyL : List D → Bool
  | [] => true
  | x :: xs => noTy x && noTyL xs
def noTyK : List (Key × D) → Bool
  | [] => true
  | (_, x) :: xs => noTy x && noTyK xs
end

theorem KV.nil_inv {κ : Type} {vs : List (κ × Value)} (h : KV ([] : List (κ × V)) vs) : vs = [] := by cases h; rfl

section
variable {X : Cx} {pins : List (Addr × Obj)} {σ : L2.St} {H : Hp} {s : Shared}
theorem not_sys (I : Inv X pins σ H s) (hb : SysB X.base) {a : Addr} {o : HO} (h : H a = some o) : a ≠ sysModules := by
  rintro rfl
  obtain ⟨ob, e⟩ := hb
  rw [(I.bs _ _ e).2] at h
  exact nomatch h
theorem key_reads {P : Program} {w : World} {h : Heap} {k : Key} {u : Value} (q : (mixKind P w).is k u = true) : Reads h u (keyP k) [] := by
  rcases keyIs_shape q with ⟨i, t, rfl, rfl⟩ | ⟨x, t, rfl, rfl⟩
  · exact .int i t
  · exact .str x t
theorem keys_read {P : Program} {w : World} {h : Heap} : ∀ {es : List DictEntry} {kvs : List (Key × Value)} {vs : List (Key × V)} {ds : List (Key × D)} {K₀ : PySem.W.Frag} {H : Hp}, Pairs (mixKind P w) es kvs → KV vs kvs → RpK K₀ H vs ds → ReadsAll h (es.map (·.key)) ((pyK ds).map (·.1)) []
  | _, _, _, _, _, _, .nil, kv, r => by
    cases kv
    cases r
    exact .nil
  | _, _, _, _, _, _, .cons a b c, kv, r => by
    cases kv with
    | cons e kv =>
      cases r with
      | cons r1 r2 =>
        have e1 : _ = _ := e.1
        subst e1
        exact .cons (key_reads a) (keys_read c kv r2)
mutual
theorem Rp.reads (I : Inv X pins σ H s) (hb : SysB X.base) : ∀ (d : D) (v : V) (u : Value), Rp X.K H v d → noTy d = true → RelV v u → ∃ as, Reads s.heap u (py d) as ∧ sysModules ∉ as
  | .non, _, _, h, _, r => by
    cases h; cases r
    exact ⟨[], by rw [py]; exact .none, by simp⟩
  | .bl b, _, _, h, _, r => by
    cases h; cases r
    exact ⟨[], by rw [py]; exact .bool b, by simp⟩
  | .int i, _, _, h, _, r => by
    cases h
    obtain ⟨t, rfl⟩ := r
    exact ⟨[], by rw [py]; exact .int i t, by simp⟩
  | .str x, _, _, h, _, r => by
    cases h
    obtain ⟨t, rfl⟩ := r
    exact ⟨[], by rw [py]; exact .str x t, by simp⟩
  | .ty n, _, _, _, h, _ => by rw [noTy] at h; exact nomatch h
  | .lsq n, _, _, _, h, _ => by rw [noTy] at h; exact nomatch h
  | .lst ds, _, _, h, ht, r => by
    cases h with
    | lst hs hr =>
      cases r
      obtain ⟨_, its, n, rv, hg⟩ := (show ObjOk X.prog X.w H s.heap _ (.lst _) from I.hok _ _ hs)
      obtain ⟨as, q1, q2⟩ := RpL.reads I hb ds _ its hr (by rw [noTy] at ht; exact ht) rv
      refine ⟨_, by rw [py]; exact .list hg rfl rfl q1, ?_⟩
      simp only [List.mem_cons, not_or]
      exact ⟨fun z => not_sys I hb hs z.symm, q2⟩
  | .tup ds, _, _, h, ht, r => by
    cases h with
    | tup hs hr =>
      cases r
      obtain ⟨its, rv, ⟨o, ho, hc, n, hd⟩, _⟩ := I.tuple hs
      obtain ⟨as, q1, q2⟩ := RpL.reads I hb ds _ its hr (by rw [noTy] at ht; exact ht) rv
      exact ⟨_, by rw [py]; exact .tuple ho hc hd q1, q2⟩
  | .dct ds, _, _, h, ht, r => by
    cases h with
    | dct hs hr =>
      cases r
      obtain ⟨_, _, vs, kv, o, es, ep, hg, hx, hd, _, hp, _⟩ := (show ObjOk X.prog X.w H s.heap _ (.dK _) from I.hok _ _ hs)
      obtain ⟨as, q1, q2⟩ := RpK.reads I hb ds _ es.toList vs hr (by rw [noTy] at ht; exact ht) hp kv
      refine ⟨_, by rw [py]; exact .dict hg hx.1 hd (keys_read hp kv hr) q1, ?_⟩
      simp only [List.append_nil, List.cons_append, List.nil_append, List.mem_cons, not_or]
      exact ⟨fun z => not_sys I hb hs z.symm, q2⟩
theorem RpL.reads (I : Inv X pins σ H s) (hb : SysB X.base) : ∀ (ds : List D) (vs : List V) (us : List Value), RpL X.K H vs ds → noTyL ds = true → Vals vs us → ∃ as, ReadsAll s.heap us (pyL ds) as ∧ sysModules ∉ as
  | [], _, _, h, _, r => by
    cases h; cases r
    exact ⟨[], by rw [pyL]; exact .nil, by simp⟩
  | d :: ds, _, _, h, ht, r => by
    cases h with
    | cons h1 h2 =>
      cases r with
      | cons r1 r2 =>
        rw [noTyL, Bool.and_eq_true] at ht
        obtain ⟨as, q1, q2⟩ := Rp.reads I hb d _ _ h1 ht.1 r1
        obtain ⟨bs, p1, p2⟩ := RpL.reads I hb ds _ _ h2 ht.2 r2
        exact ⟨_, by rw [pyL]; exact .cons q1 p1, by simp only [List.mem_append, not_or]; exact ⟨q2, p2⟩⟩
theorem RpK.reads (I : Inv X pins σ H s) (hb : SysB X.base) : ∀ (ds : List (Key × D)) (vs : List (Key × V)) (es : List DictEntry) (kvs : List (Key × Value)), RpK X.K H vs ds → noTyK ds = true → Pairs (mixKind X.prog X.w) es kvs → KV vs kvs →
    ∃ as, ReadsAll s.heap (es.map (·.val)) ((pyK ds).map (·.2)) as ∧ sysModules ∉ as
  | [], _, _, _, h, _, p, r => by
    cases h; cases r; cases p
    exact ⟨[], by rw [pyK]; exact .nil, by simp⟩
  | (k, d) :: ds, _, _, _, h, ht, p, r => by
    cases h with
    | cons h1 h2 =>
      cases r with
      | cons r1 r2 =>
        cases p with
        | cons a b c =>
          rw [noTyK, Bool.and_eq_true] at ht
          obtain ⟨as, q1, q2⟩ := Rp.reads I hb d _ _ h1 ht.1 r1.2
          obtain ⟨bs, p1, p2⟩ := RpK.reads I hb ds _ _ _ h2 ht.2 c r2
          rw [← b] at q1
          exact ⟨_, by rw [pyK]; exact .cons q1 p1, by simp only [List.mem_append, not_or]; exact ⟨q2, p2⟩⟩
end
end

/-! ## repr -/
def canShow (d : D) : Bool := noTy d && (py d).showable && decide ((py d).depth ≤ 100) && decide ((py d).shown.length ≤ sizeLine)
def rRepr (K : PySem.W.Frag) : List V → Hp → VK → Prop := fun xs H Q => ∃ v d, xs = [v] ∧ Rp K H v d ∧ canShow d = true ∧ Q (.str (py d).shown) H
theorem call_repr {X : Cx} (gu : X.A.guards = some []) (hu : X.A.units + 200 < cLine) (hb : SysB X.base) : CallR X (.builtin "repr") (rRepr X.K) := by
  intro pins s σ H xs us Q I r h
  obtain ⟨v, d, rfl, rp, cs, q⟩ := h
  obtain ⟨u, rfl, ru⟩ := vals1 r
  simp only [canShow, Bool.and_eq_true, decide_eq_true_eq] at cs
  obtain ⟨⟨⟨c1, c2⟩, c3⟩, c4⟩ := cs
  obtain ⟨as, rd, ns⟩ := Rp.reads I hb d v u rp c1 ru
  have q0 := q
  cases rp with
  | non =>
    cases ru
    refine PySem.P.repr_of_none ⟨.str _, H, I.tok _, ⟨_, rfl⟩, ?_⟩
    rw [py] at q; simpa [PyData.shown] using q
  | bl b =>
    cases ru
    refine PySem.P.repr_of_bool ⟨.str _, H, I.tok _, ⟨_, rfl⟩, ?_⟩
    rw [py] at q; simpa [PyData.shown] using q
  | int i =>
    obtain ⟨t, rfl⟩ := ru
    refine PySem.P.repr_of_int (by rw [py] at c2; simpa [PyData.showable] using c2) ⟨.str _, H, I.tok _, ⟨_, rfl⟩, ?_⟩
    rw [py] at q; simpa [PyData.shown] using q
  | str x =>
    obtain ⟨t, rfl⟩ := ru
    refine PySem.P.repr_of_str ⟨.str _, H, I.tok _, ⟨_, rfl⟩, ?_⟩ (by rw [py] at c4; simpa [PyData.shown] using c4)
    rw [py] at q; simpa [PyData.shown] using q
  | ty n => rw [noTy] at c1; exact nomatch c1
  | lsq _ _ => rw [noTy] at c1; exact nomatch c1
  | lst hs hr => cases ru; exact repr_of_reads' rd c2 (fun _ => ns) gu (by omega) (fun _ _ e => e) (fun h' u tk hk => ⟨.str _, H, I.kept hk, ⟨_, rfl⟩, q⟩) c4
  | tup hs hr => cases ru; exact repr_of_reads' rd c2 (fun _ => ns) gu (by omega) (fun _ _ e => e) (fun h' u tk hk => ⟨.str _, H, I.kept hk, ⟨_, rfl⟩, q⟩) c4
  | dct hs hr => cases ru; exact repr_of_reads' rd c2 (fun _ => ns) gu (by omega) (fun _ _ e => e) (fun h' u tk hk => ⟨.str _, H, I.kept hk, ⟨_, rfl⟩, q⟩) c4
end FR
namespace FR
open PySem L2

/-! ## operations on data -/
def tyName : D → String
  | .non => "NoneType"
  | .bl _ => "bool"
  | .int _ => "int"
  | .str _ => "str"
  | .lst _ => "list"
  | .tup _ => "tuple"
  | .dct _ => "dict"
  | .ty _ => "type"
  | .lsq _ => "list"
/-- is it of this class -/
def instD (x : D) (n : String) : Bool := tyName x == n || (n == "int" && tyName x == "bool")
def isTy : D → Bool
  | .ty _ => true
  | _ => false
def cutD (xs : List D) (lo hi : Option Int) : List D := (xs.drop (HT.sIx xs.length 0 lo)).take (HT.sIx xs.length xs.length hi - HT.sIx xs.length 0 lo)
def flatD : D → Bool
  | .non => true
  | .bl _ => true
  | .int _ => true
  | .str _ => true
  | _ => false
def eqD : D → D → Bool
  | .non, .non => true
  | .bl a, .bl b => a == b
  | .bl a, .int b => (if a then 1 else 0) == b
  | .int a, .bl b => a == (if b then 1 else 0)
  | .int a, .int b => a == b
  | .str a, .str b => a == b
  | _, _ => false
def inD (x : D) (xs : List D) : Bool := xs.any fun y => eqD y x
mutual
def noDct : D → Bool
  | .ty _ => false
  | .lsq _ => false
  | .dct _ => false
  | .lst xs => noDctL xs
  | .tup xs => noDctL xs
  | _ => true
def noDctL : List D → Bool
  | [] => true
  | x :: xs => noDct x && noDctL xs
end

section
variable {K : PySem.W.Frag} {H : Hp} {x y : D} {v u : V}
theorem Rp.flat (h : Rp K H v x) (f : flatD x = true) : flatV v = true ∧ ∀ y u, Rp K H u y → flatD y = true → eqV u v = eqD y x := by
  cases h with
  | non => exact ⟨rfl, fun y u r g => by cases r <;> first | rfl | cases g⟩
  | bl b => exact ⟨rfl, fun y u r g => by cases r <;> first | rfl | cases g⟩
  | int b => exact ⟨rfl, fun y u r g => by cases r <;> first | rfl | cases g⟩
  | str b => exact ⟨rfl, fun y u r g => by cases r <;> first | rfl | cases g⟩
  | lst _ _ => cases f
  | tup _ _ => cases f
  | dct _ _ => cases f
  | ty _ => cases f
  | lsq _ _ => cases f
theorem RpL.flat : ∀ {vs : List V} {ds : List D}, RpL K H vs ds → ds.all flatD = true → vs.all flatV = true
  | _, _, .nil, _ => rfl
  | _, _, .cons a b, f => by
    rw [List.all_cons, Bool.and_eq_true] at f ⊢
    exact ⟨(a.flat f.1).1, RpL.flat b f.2⟩
theorem RpL.inV : ∀ {vs : List V} {ds : List D}, RpL K H vs ds → ds.all flatD = true → Rp K H v x → flatD x = true → L2.inV v vs = inD x ds
  | _, _, .nil, _, _, _ => rfl
  | _, _, .cons a b, f, h, g => by
    rw [List.all_cons, Bool.and_eq_true] at f
    unfold L2.inV inD
    rw [List.any_cons, List.any_cons, (h.flat g).2 _ _ a f.1]
    congr 1
    exact RpL.inV b f.2 h g
mutual
theorem Rp.dp : ∀ {v : V} {x : D}, Rp K H v x → noDct x = true → Dp K H v (py x)
  | _, _, .non, _ => by rw [py]; exact .non
  | _, _, .bl b, _ => by rw [py]; exact .bl b
  | _, _, .int b, _ => by rw [py]; exact .int b
  | _, _, .str b, _ => by rw [py]; exact .str b
  | _, _, .ty b, h => by rw [noDct] at h; cases h
  | _, _, .lsq _ _, h => by rw [noDct] at h; cases h
  | _, _, .dct _ _, h => by rw [noDct] at h; cases h
  | _, _, .lst a b, h => by rw [py]; exact .lst (.inl (.inl a)) (RpL.dp b (by rw [noDct] at h; exact h))
  | _, _, .tup a b, h => by rw [py]; exact .tup a (RpL.dp b (by rw [noDct] at h; exact h))
theorem RpL.dp : ∀ {v : List V} {x : List D}, RpL K H v x → noDctL x = true → DpAll K H v (pyL x)
  | _, _, .nil, _ => by rw [pyL]; exact .nil
  | _, _, .cons a b, h => by
    rw [noDctL, Bool.and_eq_true] at h
    rw [pyL]
    exact .cons (Rp.dp a h.1) (RpL.dp b h.2)
end
theorem RpL.bls : ∀ {vs : List V} {bs : List Bool}, RpL K H vs (bs.map D.bl) → vs = bs.map V.bl
  | _, [], .nil => rfl
  | _, b :: bs, .cons h r => by
    have e := RpL.bls r
    cases h
    rw [e]; rfl
theorem RpL.ints : ∀ {vs : List V} {bs : List Int}, RpL K H vs (bs.map D.int) → vs = bs.map V.int
  | _, [], .nil => rfl
  | _, b :: bs, .cons h r => by
    have e := RpL.ints r
    cases h
    rw [e]; rfl
theorem RpL.cut {vs : List V} {ds : List D} (h : RpL K H vs ds) (lo hi : Option Int) : RpL K H (cutV vs lo hi) (cutD ds lo hi) := by
  unfold cutV cutD
  rw [h.len]
  exact (h.drop _).take _
theorem Rp.ty_of (h : Rp K H v x) (t : isTy x = false) : TyX K H v (.type (tyName x)) := by
  cases h with
  | non => exact .base .non
  | bl b => exact .base (.bl b)
  | int b => exact .base (.int b)
  | str b => exact .base (.str b)
  | lst a _ => exact .base (.lst a)
  | tup a _ =>
    rcases a with (a | ⟨o, a⟩) | ⟨o, its, n, a, c, _⟩
    · exact .base (.tup a)
    · exact .fTuple a
    · exact .kTuple a c
  | dct a _ => exact .base (.dK a)
  | lsq a _ =>
    rcases a with (a | ⟨o, a⟩) | ⟨o, its, n, a, c, _⟩
    · exact .base (.lst a)
    · exact .base (.frz a)
    · exact .kList a c
  | ty n => cases t
end

theorem kit_N : ∀ a ∈ ["NoneType", "bool", "int", "str", "list", "tuple", "dict"], ∀ n ∈ ["int", "bool", "str", "tuple", "list", "dict"], kitB a n = some (a == n || (n == "int" && a == "bool")) := by decide +kernel
theorem kit_D {x : D} {n : String} (t : isTy x = false) (h : n ∈ ["int", "bool", "str", "tuple", "list", "dict"]) : kitB (tyName x) n = some (instD x n) :=
  kit_N (tyName x) (by cases x <;> first | (cases t; done) | simp [tyName]) n h

section
variable {W : Wo} {n m : Nat} {env stk : List E} {σ : St} {ds : List D} {vs : St} {us : List V} {H H' : Hp} {d x y : D} {v vx vy : V} {i : Nat} {Φ : D → Nat → Prop} {r : R2}

theorem op2_any {xs : List D} (hr : ∀ env σ stk vs vx vy H (Q : VK), Wd W n env σ (.d y :: .d x :: stk) (some vy :: some vx :: vs) H → (∀ v d n' H', Φ d n' → Wd W n' env σ (.d d :: stk) (some v :: vs) H' → Q v H') → r vx vy H Q) : Op2 W r n x y Φ := hr
theorem opN1 {r : List V → Hp → VK → Prop} (h : Op1 W (fun v => r [v]) n x Φ) : OpN W r n [x] Φ := fun env σ stk vs us H Q l w k => by
  match us, l with
  | [u], _ => exact h env σ stk vs u H Q w k
theorem opN2 {r : List V → Hp → VK → Prop} (h : Op2 W (fun v u => r [v, u]) n x y Φ) : OpN W r n [x, y] Φ := fun env σ stk vs us H Q l w k => by
  match us, l with
  | [u, u'], _ =>
    refine h env σ stk vs u u' H Q (Wd.restk (ds := [x, y]) (us := [u, u']) (ds' := [y, x]) (us' := [u', u]) w rfl fun U _ r => ?_) k
    cases r with
    | cons r1 r2 =>
      cases r2 with
      | cons r2 r3 => exact .cons r2 (.cons r1 .nil)
theorem op1_pure {r : V → Hp → VK → Prop} {v : V} {d : D} (hr : ∀ vx H (Q : VK), Rp W.K H vx x → Q v H → r vx H Q) (hd : ∀ K U, Rp K U v d) (q : Φ d n) : Op1 W r n x Φ := fun env σ stk vs vx H Q w k =>
  hr vx H Q w.top (k _ _ n H q (w.pop.push fun U _ => hd _ U))
/-- a part of what is on the stack -/
theorem Wd.part (w : Wd W n env σ (.d x :: stk) (some vx :: vs) H) (f : ∀ U : Hp, Same U H → Rp W.K U vx x → Rp W.K U v d) : Wd W n env σ (.d d :: stk) (some v :: vs) H :=
  Wd.restk (ds := [x]) (us := [vx]) (ds' := [d]) (us' := [v]) w rfl fun U s r => by
    cases r with
    | cons r _ => exact .cons (f U s r) .nil

theorem op_isi {n' : String} (t : isTy x = false) (hn : n' ∈ ["int", "bool", "str", "tuple", "list", "dict"]) (q : Φ (.bl (instD x n')) n) : OpN W (rIsi W.K) n [x, .ty n'] Φ :=
  opN2 (op2_pure (fun vx vy H Q h1 h2 k => by
    cases h2
    exact ⟨_, _, _, _, _, rfl, .ty n', h1.ty_of t, kit_ty (kit_D t hn), k⟩) (fun _ _ => .bl _) q)
theorem op_len_s {z : Str} (hz : z.length ≤ sizeLine) (q : Φ (.int z.length) n) : OpN W (fun xs H Q => ∃ x n, xs = [x] ∧ LenV W.K x H n ∧ Q (.int n) H) n [.str z] Φ :=
  opN1 (op1_pure (fun vx H Q h k => by
    cases h
    exact ⟨_, _, rfl, ⟨hz, rfl⟩, k⟩) (fun _ _ => .int _) q)
theorem op_len_t {xs : List D} (q : Φ (.int xs.length) n) : OpN W (fun xs H Q => ∃ x n, xs = [x] ∧ LenV W.K x H n ∧ Q (.int n) H) n [.tup xs] Φ :=
  opN1 (op1_pure (v := .int xs.length) (fun vx H Q h k => by
    cases h with
    | tup a b => exact ⟨_, _, rfl, .inr ⟨_, a, b.len.symm⟩, k⟩) (fun _ _ => .int _) q)
theorem op_len_l {xs : List D} (q : Φ (.int xs.length) n) : OpN W (fun xs H Q => ∃ x n, xs = [x] ∧ LenV W.K x H n ∧ Q (.int n) H) n [.lst xs] Φ :=
  opN1 (op1_pure (v := .int xs.length) (fun vx H Q h k => by
    cases h with
    | lst a b => exact ⟨_, _, rfl, .inl ⟨_, .inl (.inl a), b.len.symm⟩, k⟩) (fun _ _ => .int _) q)
theorem op_all {bs : List Bool} (q : Φ (.bl (bs.all id)) n) : OpN W (rAll W.K) n [.lst (bs.map D.bl)] Φ :=
  opN1 (op1_pure (fun vx H Q h k => by
    cases h with
    | lst a b => rw [b.bls] at a; exact ⟨_, bs, rfl, .inl (.inl a), k⟩) (fun _ _ => .bl _) q)
theorem op_any {bs : List Bool} (q : Φ (.bl (bs.any id)) n) : OpN W (rAny W.K) n [.lst (bs.map D.bl)] Φ :=
  opN1 (op1_pure (fun vx H Q h k => by
    cases h with
    | lst a b => rw [b.bls] at a; exact ⟨_, bs, rfl, .inl (.inl a), k⟩) (fun _ _ => .bl _) q)
theorem op_repr (c : canShow x = true) (q : Φ (.str (py x).shown) n) : OpN W (rRepr W.K) n [x] Φ :=
  opN1 (op1_pure (fun vx H Q h k => ⟨_, _, rfl, h, c, k⟩) (fun _ _ => .str _) q)
theorem op_eqd (c1 : noDct x = true) (c2 : noDct y = true) (s1 : SeqAt.shaped (py x) = true) (s2 : SeqAt.shaped (py y) = true) (q : Φ (.bl (PyData.eqv (py x) (py y))) n) : Op2 W (rEqD W.K) n x y Φ :=
  op2_pure (fun vx vy H Q h1 h2 k => ⟨_, _, h1.dp c1, h2.dp c2, s1, s2, k⟩) (fun _ _ => .bl _) q
theorem op_ned (c1 : noDct x = true) (c2 : noDct y = true) (s1 : SeqAt.shaped (py x) = true) (s2 : SeqAt.shaped (py y) = true) (q : Φ (.bl (!PyData.eqv (py x) (py y))) n) : Op2 W (rNeD W.K) n x y Φ :=
  op2_pure (fun vx vy H Q h1 h2 k => ⟨_, _, h1.dp c1, h2.dp c2, s1, s2, k⟩) (fun _ _ => .bl _) q
def scalD : D → D → Bool
  | .non, .non => true | .non, .int _ => true | .int _, .non => true | .non, .bl _ => true | .bl _, .non => true | .non, .str _ => true | .str _, .non => true
  | .int _, .int _ => true | .bl _, .bl _ => true | .str _, .str _ => true
  | .int _, .str _ => true | .str _, .int _ => true | .bl _, .str _ => true | .str _, .bl _ => true
  | _, _ => false
theorem scal_dec {H : Hp} (s : scalD x y = true) (h1 : Rp W.K H vx x) (h2 : Rp W.K H vy y) : scal vx vy = true ∧ decide (vx = vy) = eqD x y := by
  cases h1 <;> cases h2 <;> first
    | (cases s; done)
    | exact ⟨rfl, by rw [Bool.eq_iff_iff]; simp [eqD]⟩
theorem op_eqs (s : scalD x y = true) (q : Φ (.bl (eqD x y)) n) : Op2 W rEq n x y Φ := fun env σ stk vs vx vy H Q w k => by
  obtain ⟨e1, e2⟩ := scal_dec s w.pop.top w.top
  exact ⟨e1, by rw [e2]; exact k _ _ n H q (w.pop.pop.push fun U _ => .bl _)⟩
theorem op_nes (s : scalD x y = true) (q : Φ (.bl (!eqD x y)) n) : Op2 W rNe n x y Φ := fun env σ stk vs vx vy H Q w k => by
  obtain ⟨e1, e2⟩ := scal_dec s w.pop.top w.top
  exact ⟨e1, by rw [e2]; exact k _ _ n H q (w.pop.pop.push fun U _ => .bl _)⟩
def isNon : D → Bool
  | .non => true
  | _ => false
theorem isNon_dec {H : Hp} (h : Rp W.K H vx x) : decide (vx = .non) = isNon x := by
  cases h <;> simp [isNon]
theorem op_is (q : Φ (.bl (isNon x)) n) : Op2 W (fun x y H Q => y = .non ∧ Q (.bl (decide (x = .non))) H) n x .non Φ := fun env σ stk vs vx vy H Q w k => by
  have h := w.top
  cases h
  exact ⟨rfl, by rw [isNon_dec w.pop.top]; exact k _ _ n H q (w.pop.pop.push fun U _ => .bl _)⟩
theorem op_isnt (q : Φ (.bl (!isNon x)) n) : Op2 W (fun x y H Q => y = .non ∧ Q (.bl (!decide (x = .non))) H) n x .non Φ := fun env σ stk vs vx vy H Q w k => by
  have h := w.top
  cases h
  exact ⟨rfl, by rw [isNon_dec w.pop.top]; exact k _ _ n H q (w.pop.pop.push fun U _ => .bl _)⟩
theorem op_lts {a b : Str} (q : Φ (.bl (decide (a.cps.toList < b.cps.toList))) n) : Op2 W (fun x y H Q => ∃ i j, x = .str i ∧ y = .str j ∧ Q (.bl (decide (i.cps.toList < j.cps.toList))) H) n (.str a) (.str b) Φ :=
  op2_pure (fun vx vy H Q h1 h2 k => by cases h1; cases h2; exact ⟨_, _, rfl, rfl, k⟩) (fun _ _ => .bl _) q
theorem op_ges {a b : Str} (q : Φ (.bl (!decide (a.cps.toList < b.cps.toList))) n) : Op2 W (fun x y H Q => ∃ i j, x = .str i ∧ y = .str j ∧ Q (.bl (!decide (i.cps.toList < j.cps.toList))) H) n (.str a) (.str b) Φ :=
  op2_pure (fun vx vy H Q h1 h2 k => by cases h1; cases h2; exact ⟨_, _, rfl, rfl, k⟩) (fun _ _ => .bl _) q
theorem op_sign {c : Nat} {z : Str} (q : Φ (.bl (decide (c ∈ z.cps.toList))) n) : Op2 W (fun x y H Q => ∃ c z, x = .str ⟨#[c]⟩ ∧ y = .str z ∧ Q (.bl (decide (c ∈ z.cps.toList))) H) n (.str ⟨#[c]⟩) (.str z) Φ :=
  op2_pure (fun vx vy H Q h1 h2 k => by cases h1; cases h2; exact ⟨_, _, rfl, rfl, k⟩) (fun _ _ => .bl _) q
theorem op_inT {xs : List D} (f : flatD x = true) (g : xs.all flatD = true) (q : Φ (.bl (inD x xs)) n) : Op2 W (rIn W.K false) n x (.tup xs) Φ :=
  op2_pure (fun vx vy H Q h1 h2 k => by
    cases h2 with
    | tup a b => exact ⟨_, _, rfl, .inr a, (h1.flat f).1, b.flat g, by rw [if_neg (by decide), b.inV g h1 f]; exact k⟩) (fun _ _ => .bl _) q
theorem op_inL {xs : List D} (f : flatD x = true) (g : xs.all flatD = true) (q : Φ (.bl (inD x xs)) n) : Op2 W (rIn W.K false) n x (.lst xs) Φ :=
  op2_pure (fun vx vy H Q h1 h2 k => by
    cases h2 with
    | lst a b => exact ⟨_, _, rfl, .inl (.inl (.inl a)), (h1.flat f).1, b.flat g, by rw [if_neg (by decide), b.inV g h1 f]; exact k⟩) (fun _ _ => .bl _) q
theorem Wd.view (w : Wd W n env σ (ds.map E.d ++ stk) (us.map some ++ vs) H) (l : us.length = ds.length) : ∃ U, Same U H ∧ RpL W.K U us ds ∧ (∀ us' ds', RpL W.K U us' ds' → Wd W n env σ (ds'.map E.d ++ stk) (us'.map some ++ vs) H) ∧
    ∀ p o, H p = Option.none → ∃ U', Same U U' ∧ U' p = some o ∧ ∀ us' ds', RpL W.K U' us' ds' → Wd W n env σ (ds'.map E.d ++ stk) (us'.map some ++ vs) (upd H p o) := by
  have hid := w.hidH
  have w0 := w
  obtain ⟨k, h, pp, M1, M2, a, nd, b, c⟩ := w
  obtain ⟨c1, c2⟩ := EnvOk.toL l c
  refine ⟨_, era_sub _ _, c1, fun us' ds' r => ⟨k, h, pp, M1, M2, a, nd, b, EnvOk.ofL r c2⟩, fun p o hp => ?_⟩
  have e : Same H (upd H p o) := same_new hp
  refine ⟨era (upd H p o) (W.M0 ++ (M1 ++ M2)), era_mono _ e, era_of upd_same fun z => ?_, fun us' ds' r => ?_⟩
  · rcases List.mem_append.mp z with z | z
    · exact hid p z hp
    · exact (a p z).2 hp
  · refine ⟨fun b o n q => e _ _ (k b o n q), h, fun q hq => ⟨(pp q hq).1, (pp q hq).2.mono e⟩, M1, M2, fun q hq => ⟨(a q hq).1, fun z => ?_⟩, nd, b.mono (era_mono _ e) e, EnvOk.ofL r (c2.mono (era_mono _ e) e)⟩
    cases r : H q with
    | none => exact (a q hq).2 r
    | some o => rw [e _ _ r] at z; cases z
theorem Wd.view1 (w : Wd W n env σ (.d x :: stk) (some vx :: vs) H) : ∃ U, Same U H ∧ Rp W.K U vx x ∧ (∀ v d, Rp W.K U v d → Wd W n env σ (.d d :: stk) (some v :: vs) H) ∧
    ∀ p o, H p = Option.none → ∃ U', Same U U' ∧ U' p = some o ∧ ∀ v d, Rp W.K U' v d → Wd W n env σ (.d d :: stk) (some v :: vs) (upd H p o) := by
  obtain ⟨U, s, r, f, g⟩ := Wd.view (ds := [x]) (us := [vx]) w rfl
  cases r with
  | cons r _ =>
    refine ⟨U, s, r, fun v d q => f [v] [d] (.cons q .nil), fun p o hp => ?_⟩
    obtain ⟨U', s', e, g⟩ := g p o hp
    exact ⟨U', s', e, fun v d q => g [v] [d] (.cons q .nil)⟩
theorem Wd.view2 (w : Wd W n env σ (.d y :: .d x :: stk) (some vy :: some vx :: vs) H) : ∃ U, Same U H ∧ Rp W.K U vx x ∧ Rp W.K U vy y ∧ (∀ v d, Rp W.K U v d → Wd W n env σ (.d d :: stk) (some v :: vs) H) ∧
    ∀ p o, H p = Option.none → ∃ U', Same U U' ∧ U' p = some o ∧ ∀ v d, Rp W.K U' v d → Wd W n env σ (.d d :: stk) (some v :: vs) (upd H p o) := by
  obtain ⟨U, s, r, f, g⟩ := Wd.view (ds := [y, x]) (us := [vy, vx]) w rfl
  cases r with
  | cons r r2 =>
    cases r2 with
    | cons r2 _ =>
      refine ⟨U, s, r2, r, fun v d q => f [v] [d] (.cons q .nil), fun p o hp => ?_⟩
      obtain ⟨U', s', e, g⟩ := g p o hp
      exact ⟨U', s', e, fun v d q => g [v] [d] (.cons q .nil)⟩
theorem op_ixT {xs : List D} {i : Int} (e : atI xs i = some d) (q : Φ d n) : Op2 W (rIxT W.K) n (.tup xs) (.int i) Φ := fun env σ stk vs vx vy H Q w k => by
  obtain ⟨U, s, h2, h1, f, _⟩ := w.view2
  cases h1
  cases h2 with
  | tup a b =>
    unfold atI at e
    obtain ⟨j, e1, e2⟩ := Option.bind_eq_some_iff.mp e
    obtain ⟨u, e3, r⟩ := b.get e2
    exact ⟨_, _, i, u, rfl, rfl, same_sqT s a, by unfold atI; rw [b.len, e1]; exact e3, k _ _ n H q (f _ _ r)⟩
theorem op_ixL {xs : List D} {i : Int} (e : atI xs i = some d) (q : Φ d n) : Op2 W (rIxL W.K) n (.lst xs) (.int i) Φ := fun env σ stk vs vx vy H Q w k => by
  obtain ⟨U, s, h2, h1, f, _⟩ := w.view2
  cases h1
  cases h2 with
  | lst a b =>
    unfold atI at e
    obtain ⟨j, e1, e2⟩ := Option.bind_eq_some_iff.mp e
    obtain ⟨u, e3, r⟩ := b.get e2
    exact ⟨_, _, i, u, rfl, rfl, .inl (.inl (s _ _ a)), by unfold atI; rw [b.len, e1]; exact e3, k _ _ n H q (f _ _ r)⟩
theorem op_len_q {xs : List D} (q : Φ (.int xs.length) n) : OpN W (fun xs H Q => ∃ x n, xs = [x] ∧ LenV W.K x H n ∧ Q (.int n) H) n [.lsq xs] Φ :=
  opN1 (op1_pure (v := .int xs.length) (fun vx H Q h k => by
    cases h with
    | lsq a b => exact ⟨_, _, rfl, .inl ⟨_, a, b.len.symm⟩, k⟩) (fun _ _ => .int _) q)
theorem op_ixLq {xs : List D} {i : Int} (e : atI xs i = some d) (q : Φ d n) : Op2 W (rIxL W.K) n (.lsq xs) (.int i) Φ := fun env σ stk vs vx vy H Q w k => by
  obtain ⟨U, s, h2, h1, f, _⟩ := w.view2
  cases h1
  cases h2 with
  | lsq a b =>
    unfold atI at e
    obtain ⟨j, e1, e2⟩ := Option.bind_eq_some_iff.mp e
    obtain ⟨u, e3, r⟩ := b.get e2
    exact ⟨_, _, i, u, rfl, rfl, Same.seq s a, by unfold atI; rw [b.len, e1]; exact e3, k _ _ n H q (f _ _ r)⟩
theorem op_ixQ {i : Int} (h : Op2 W (rIxT W.K) n x y Φ ∨ Op2 W (rIxL W.K) n x y Φ) : Op2 W (rIx W.K) n x y Φ := fun env σ stk vs vx vy H Q w k => by
  rcases h with h | h
  · exact .inr (.inl (h env σ stk vs vx vy H Q w k))
  · exact .inl (h env σ stk vs vx vy H Q w k)
theorem wp_slT {te : TE} {tl th : TO} (q : Wp W te n env fun x n1 => ∃ xs, x = .tup xs ∧ WpO W tl n1 env fun lo n2 => WpO W th n2 env fun hi n3 => Φ (.tup (cutD xs lo hi)) n3) : Wp W (tSl (rSlA W.K) te tl th) n env Φ := fun σ stk vs H Q w k =>
  q σ stk vs H _ w fun v d n1 H1 q1 w1 => by
    obtain ⟨xs, rfl, q1⟩ := q1
    refine q1 σ _ _ H1 _ w1 fun lo n2 H2 q2 w2 => q2 σ _ _ H2 _ w2 fun hi n3 H3 q3 w3 => ?_
    obtain ⟨U, s, h, f, g⟩ := w3.view1
    cases h with
    | tup a b =>
      refine ⟨_, _, rfl, same_sqT s a, fun hw => k _ _ n3 H3 q3 (f _ _ ?_), fun hw p hp => ?_⟩
      · have e : cutD xs lo hi = xs := by
          unfold cutD
          rw [b.len] at hw
          rw [hw.1, hw.2]
          simp
        rw [e]
        exact .tup a b
      · obtain ⟨U', s', e, g⟩ := g p (.tup (cutV _ lo hi)) hp
        exact k _ _ n3 _ q3 (g _ _ (.tup (.inl (.inl e)) ((b.cut lo hi).mono s')))
theorem op_cT {xs ys : List D} (l : xs.length + ys.length ≤ sizeLine) (q : Φ (.tup (xs ++ ys)) n) : Op2 W (rCatA W.K) n (.tup xs) (.tup ys) Φ := fun env σ stk vs vx vy H Q w k => by
  obtain ⟨U, s, h1, h2, f, g⟩ := w.view2
  cases h1 with
  | tup a b =>
    cases h2 with
    | tup a2 b2 =>
      refine ⟨_, _, _, _, rfl, rfl, same_sqT s a, same_sqT s a2, by rw [b.len, b2.len]; exact l, fun e => ?_, fun _ e => ?_, fun _ _ p hp => ?_⟩
      · subst e
        cases b
        exact k _ _ n H q (f _ _ (.tup a2 b2))
      · subst e
        cases b2
        rw [List.append_nil] at q
        exact k _ _ n H q (f _ _ (.tup a b))
      · obtain ⟨U', s', e, g⟩ := g p (.tup (_ ++ _)) hp
        exact k _ _ n _ q (g _ _ (.tup (.inl (.inl e)) ((b.app b2).mono s')))
theorem op_cL {xs ys : List D} (l : xs.length + ys.length ≤ sizeLine) (q : Φ (.lst (xs ++ ys)) n) : Op2 W rCat n (.lst xs) (.lst ys) Φ := fun env σ stk vs vx vy H Q w k => by
  obtain ⟨U, s, h1, h2, f, g⟩ := w.view2
  cases h1 with
  | lst a b =>
    cases h2 with
    | lst a2 b2 =>
      refine ⟨_, _, _, _, rfl, rfl, s _ _ a, s _ _ a2, by rw [b.len, b2.len]; exact l, fun p hp => ?_⟩
      obtain ⟨U', s', e, g⟩ := g p (.lst (_ ++ _)) hp
      exact k _ _ n _ q (g _ _ (.lst e ((b.app b2).mono s')))
theorem op_tupleL {xs : List D} (q : Φ (.tup xs) n) : OpN W (fun xs H Q => ∃ p ys, xs = [.ref p] ∧ ((SqL W.K H p ys ∧ ∀ l, H l = Option.none → Q (.ref l) (upd H l (.tup ys))) ∨ (SqT W.K H p ys ∧ Q (.ref p) H))) n [.lst xs] Φ :=
  opN1 fun env σ stk vs vx H Q w k => by
    obtain ⟨U, s, h1, f, g⟩ := w.view1
    cases h1 with
    | lst a b =>
      refine ⟨_, _, rfl, .inl ⟨.inl (.inl (s _ _ a)), fun p hp => ?_⟩⟩
      obtain ⟨U', s', e, g⟩ := g p (.tup _) hp
      exact k _ _ n _ q (g _ _ (.tup (.inl (.inl e)) (b.mono s')))
theorem op_listT {xs : List D} (q : Φ (.lst xs) n) : OpN W (fun xs H Q => ∃ p ys, xs = [.ref p] ∧ (SqL W.K H p ys ∨ SqT W.K H p ys) ∧ ∀ l, H l = Option.none → Q (.ref l) (upd H l (.lst ys))) n [.tup xs] Φ :=
  opN1 fun env σ stk vs vx H Q w k => by
    obtain ⟨U, s, h1, f, g⟩ := w.view1
    cases h1 with
    | tup a b =>
      refine ⟨_, _, rfl, .inr (same_sqT s a), fun p hp => ?_⟩
      obtain ⟨U', s', e, g⟩ := g p (.lst _) hp
      exact k _ _ n _ q (g _ _ (.lst e (b.mono s')))

/-! ## what is walked -/
theorem ItD.same {K : PySem.W.Frag} {J : It} {xs : List V} {stk2 : List D} {vs2 : List V} {G : Hp → Prop} {Y : Nat → Hp → V → Hp → Prop} (hw : Walk J ds.length G Y) (hG : ∀ H, RpL K H vs2 stk2 → G H)
    (hY : ∀ i H x H', i < ds.length → Y i H x H' → H' = H ∧ ∃ d, ds[i]? = some d ∧ ∀ U, RpL K U vs2 stk2 → Same U H → Rp K U x d) : ItD K J ds stk2 vs2 :=
  ⟨G, Y, hw, hG, fun i H x H' hi _ y => by
    obtain ⟨rfl, d, e, r⟩ := hY i H x H' hi y
    exact ⟨d, e, Same.refl _, fun M _ rl => r _ rl (era_sub _ _)⟩⟩
theorem wi_tup {te : TE} {Φ : List D → Nat → Prop} (q : Wp W te n env fun x n1 => ∃ xs, x = .tup xs ∧ Φ xs n1) : WpI W (iTup W.K te) n env Φ := fun σ stk vs H R w k =>
  q σ stk vs H _ w fun v d n1 H1 q1 w1 => by
    obtain ⟨xs, rfl, q1⟩ := q1
    have t := w1.top
    cases t with
    | @tup a us _ hs hr =>
      refine ⟨a, rfl, ⟨_, hs⟩, k _ xs n1 H1 [.tup xs] [.ref a] q1 rfl w1 ⟨?_⟩⟩
      refine ⟨fun H => ∃ ws, SqT W.K H a ws ∧ ws.length = xs.length, fun i H x H' => H' = H ∧ ∀ ws, SqT W.K H a ws → ws[i]? = some x, ⟨?_, ?_, ?_⟩, ?_, ?_⟩
      · rintro i H hi ⟨ws, h1, h2⟩
        exact ⟨ws, ws[i]'(by omega), h1, by simp [show i < ws.length by omega]⟩
      · rintro H ⟨ws, h1, h2⟩
        exact ⟨ws, h1, by omega⟩
      · rintro i H x H' hi ⟨ws, h1, h2⟩ y
        exact y
      · intro H rl
        cases rl with
        | cons r _ =>
          cases r with
          | tup a b => exact ⟨_, a, b.len⟩
      · rintro i H x H' hi rl ⟨rfl, y⟩
        refine ⟨xs[i], by simp [hi], Same.refl _, fun M _ rl2 => ?_⟩
        cases rl2 with
        | cons r _ =>
          cases r with
          | tup a b =>
            obtain ⟨u, e1, e2⟩ := b.get (i := i) (x := xs[i]) (by simp [hi])
            have e3 := y _ (same_sqT (era_sub _ _) a)
            rw [e1] at e3
            cases e3
            exact e2
theorem wi_list {te : TE} {Φ : List D → Nat → Prop} (q : Wp W te n env fun x n1 => ∃ xs, x = .lst xs ∧ Φ xs n1) : WpI W (iList W.K te) n env Φ := fun σ stk vs H R w k =>
  q σ stk vs H _ w fun v d n1 H1 q1 w1 => by
    obtain ⟨xs, rfl, q1⟩ := q1
    have t := w1.top
    cases t with
    | @lst a us _ hs hr =>
      refine ⟨a, rfl, ⟨_, .inl (.inl hs)⟩, k _ xs n1 H1 [.lst xs] [.ref a] q1 rfl w1 ⟨?_⟩⟩
      refine ⟨fun H => ∃ ws, SqL W.K H a ws ∧ ws.length = xs.length, fun i H x H' => H' = H ∧ ∀ ws, SqL W.K H a ws → ws[i]? = some x, ⟨?_, ?_, ?_⟩, ?_, ?_⟩
      · rintro i H hi ⟨ws, h1, h2⟩
        exact ⟨ws, ws[i]'(by omega), h1, by simp [show i < ws.length by omega]⟩
      · rintro H ⟨ws, h1, h2⟩
        exact ⟨ws, h1, by omega⟩
      · rintro i H x H' hi ⟨ws, h1, h2⟩ y
        exact y
      · intro H rl
        cases rl with
        | cons r _ =>
          cases r with
          | lst a b => exact ⟨_, .inl (.inl a), b.len⟩
      · rintro i H x H' hi rl ⟨rfl, y⟩
        refine ⟨xs[i], by simp [hi], Same.refl _, fun M _ rl2 => ?_⟩
        cases rl2 with
        | cons r _ =>
          cases r with
          | lst a b =>
            obtain ⟨u, e1, e2⟩ := b.get (i := i) (x := xs[i]) (by simp [hi])
            have e3 := y _ (.inl (.inl (era_sub _ _ _ _ a)))
            rw [e1] at e3
            cases e3
            exact e2
def signs (z : Str) : List D := z.cps.toList.map fun c => D.str ⟨#[c]⟩
theorem wi_str {te : TE} {Φ : List D → Nat → Prop} (q : Wp W te n env fun x n1 => ∃ z, x = .str z ∧ Φ (signs z) n1) : WpI W (iStr te) n env Φ := fun σ stk vs H R w k =>
  q σ stk vs H _ w fun v d n1 H1 q1 w1 => by
    obtain ⟨z, rfl, q1⟩ := q1
    have t := w1.top
    cases t
    have hl : (signs z).length = z.cps.size := by simp [signs]
    refine ⟨z, rfl, k _ (signs z) n1 H1 [] [] q1 rfl w1.pop ⟨_, _, by rw [hl]; exact walk_str, fun _ _ => trivial, ?_⟩⟩
    rintro i H x H' hi rl ⟨rfl, c, e1, rfl⟩
    refine ⟨.str ⟨#[c]⟩, ?_, Same.refl _, fun M _ _ => .str _⟩
    show (z.cps.toList.map fun c => D.str ⟨#[c]⟩)[i]? = _
    rw [List.getElem?_map, Array.getElem?_toList, e1]
    rfl
def rangeD (lo : Int) (k : Nat) : List D := (List.range k).map fun (i : Nat) => D.int (lo + i)
theorem wi_range {ta : TA} {Φ : List D → Nat → Prop} (q : WpA W ta n env fun ds n1 => ∃ j : Int, ds = [.int j] ∧ -(2 ^ 62) ≤ j ∧ j < 2 ^ 62 ∧ Φ (rangeD 0 j.toNat) n1) : WpI W (iRng1 ta) n env Φ := fun σ stk vs H R w k =>
  q σ stk vs H _ w fun us ds n1 H1 q1 l w1 => by
    obtain ⟨j, rfl, h1, h2, q1⟩ := q1
    have t := w1.sees l
    cases t with
    | cons a b =>
      cases a
      cases b
      have hl : (rangeD 0 j.toNat).length = j.toNat := by simp [rangeD]
      refine ⟨j, rfl, h1, h2, k _ (rangeD 0 j.toNat) n1 H1 [] [] q1 rfl w1.pop ⟨_, _, by rw [hl]; exact walk_range, fun _ _ => trivial, ?_⟩⟩
      rintro i H x H' hi rl ⟨rfl, rfl⟩
      rw [hl] at hi
      exact ⟨.int (0 + i), by simp [rangeD, hi], Same.refl _, fun M _ _ => .int _⟩
def zipD (xs ys : List D) : List D := (xs.zip ys).map fun p => D.tup [p.1, p.2]
theorem wi_zipT {ta : TA} {Φ : List D → Nat → Prop} (q : WpA W ta n env fun ds n1 => ∃ xs ys, ds = [.tup xs, .tup ys] ∧ Φ (zipD xs ys) n1) : WpI W (RZ.iZipA W.K ta) n env Φ := fun σ stk vs H R w k =>
  q σ stk vs H _ w fun us ds n1 H1 q1 l w1 => by
    obtain ⟨xs, ys, rfl, q1⟩ := q1
    have t := w1.sees l
    cases t with
    | cons a b =>
      cases b with
      | cons b c =>
        cases c
        cases a with
        | @tup a1 us1 _ a2 a3 =>
          cases b with
          | @tup b1 us2 _ b2 b3 =>
            have hl : (zipD xs ys).length = min xs.length ys.length := by simp [zipD]
            refine ⟨a1, b1, us1, us2, rfl, .inr ⟨a2, b2, k _ (zipD xs ys) n1 H1 [.tup xs, .tup ys] [.ref a1, .ref b1] q1 rfl w1 ⟨?_⟩⟩⟩
            refine ⟨fun H => ∃ ws zs, SqT W.K H a1 ws ∧ ws.length = xs.length ∧ SqT W.K H b1 zs ∧ zs.length = ys.length, fun i H v H' => ∃ T x y, v = .ref T ∧ H T = Option.none ∧ H' = upd H T (.tup [x, y]) ∧ (∀ xs, SqT W.K H a1 xs → xs[i]? = some x) ∧ ∀ ys, SqT W.K H b1 ys → ys[i]? = some y, ⟨?_, ?_, ?_⟩, ?_, ?_⟩
            · rintro i H hi ⟨ws, zs, h1, h2, h3, h4⟩
              exact ⟨ws, zs, ws[i]'(by omega), zs[i]'(by omega), h1, h3, by simp [show i < ws.length by omega], by simp [show i < zs.length by omega]⟩
            · rintro H ⟨ws, zs, h1, h2, h3, h4⟩
              exact ⟨ws, zs, h1, h3, by omega⟩
            · rintro i H x H' hi ⟨ws, zs, h1, h2, h3, h4⟩ y
              exact y
            · intro H rl
              cases rl with
              | cons r r2 =>
                cases r2 with
                | cons r2 _ =>
                  cases r with
                  | tup a b =>
                    cases r2 with
                    | tup c d => exact ⟨_, _, a, b.len, c, d.len⟩
            · rintro i H v H' hi rl ⟨T, x, y, rfl, hT, rfl, y1, y2⟩
              have hx : i < xs.length := by omega
              have hy : i < ys.length := by omega
              refine ⟨.tup [xs[i], ys[i]], by unfold zipD; rw [List.getElem?_map, List.getElem?_eq_getElem (by simp; omega), List.getElem_zip]; rfl, same_new hT, fun M hM rl2 => ?_⟩
              cases rl2 with
              | cons r r2 =>
                cases r2 with
                | cons r2 _ =>
                  cases r with
                  | tup a b =>
                    cases r2 with
                    | tup c d =>
                      obtain ⟨u, e1, e2⟩ := b.get (i := i) (x := xs[i]) (by simp [hx])
                      obtain ⟨u2, f1, f2⟩ := d.get (i := i) (x := ys[i]) (by simp [hy])
                      have e3 := y1 _ (same_sqT (era_sub _ _) a)
                      have f3 := y2 _ (same_sqT (era_sub _ _) c)
                      rw [e1] at e3
                      rw [f1] at f3
                      cases e3
                      cases f3
                      have nT : T ∉ M := fun z => hM T z hT
                      refine .tup (.inl (.inl (era_of upd_same nT))) (.cons (e2.mono ?_) (.cons (f2.mono ?_) .nil))
                      all_goals exact era_mono _ (same_new hT)
end
end FR
namespace FR
open PySem L2

/-! ## promises over data -/
def spD (K : PySem.W.Frag) (C : List D → (D → Prop) → Prop) : Sp := fun vs H Q _ => ∃ (M : List Addr) (ds : List D) (Φ : D → Prop), (∀ p ∈ M, H p ≠ Option.none) ∧ RpL K (era H M) vs ds ∧ C ds Φ ∧
  ∀ v d H', Φ d → Same H H' → Rp K (era H' M) v d → Q v H'
def spP (K : PySem.W.Frag) (C : List D → Nat → (D → Nat → Prop) → Prop) : Sp := fun vs H Q _ => ∃ (M : List Addr) (p : Addr) (us : List V) (n : Nat) (ds : List D) (Φ : D → Nat → Prop), vs = .ref p :: us ∧ p ∈ M ∧ (∀ q ∈ M, H q ≠ Option.none) ∧ PotOk H p n ∧ RpL K (era H M) us ds ∧ C ds n Φ ∧
  ∀ v d n' H', Φ d n' → (∀ b o, b ≠ p → H b = some o → H' b = some o) → PotOk H' p n' → Rp K (era H' M) v d → Q v H'

def envD (N : List Str) (ds : List D) : List E := ds.map E.d ++ List.replicate (N.length - ds.length) E.any
def envP (N : List Str) (ds : List D) : List E := .pot :: (ds.map E.d ++ List.replicate (N.length - (ds.length + 1)) E.any)

theorem env_any {W : Wo} {U H : Hp} : ∀ k : Nat, EnvOk W U H (List.replicate k E.any) (List.replicate k Option.none) []
  | 0 => trivial
  | k + 1 => env_any (W := W) (U := U) (H := H) k

section
variable {K : PySem.W.Frag} {N : List Str} {t : TS} {vs : List V} {H : Hp} {Q : VK} {Ex : XK}
theorem D_body {C : List D → (D → Prop) → Prop} (h : spD K C vs H Q Ex) (hw : ∀ (W : Wo) ds Φ, W.K = K → C ds Φ → WpS W t 0 (envD N ds) { nx := fun _ _ => Φ .non, rt := fun d _ => Φ d }) :
    t { nx := fun _ H' => Q .non H', rt := Q } (start N vs) H := by
  obtain ⟨M, ds, Φ, hM, r, c, k⟩ := h
  have w : Wd ⟨K, Option.none, M, H⟩ 0 (envD N ds) (start N vs) [] [] H := by
    refine ⟨fun b o _ e => e, hM, fun p e => (by cases e), [], [], fun p hp => (by cases hp), List.nodup_nil, ?_, trivial⟩
    have e : M ++ ([] ++ []) = M := by simp
    show EnvOk _ (era H (M ++ ([] ++ []))) H _ _ []
    rw [e]
    unfold envD L2.start
    rw [r.len]
    exact EnvOk.ofL r (env_any _)
  have fin : ∀ v d n H' env σ, Φ d → Wd ⟨K, Option.none, M, H⟩ n env σ [.d d] [some v] H' → Q v H' := fun v d n H' env σ p w' => by
    obtain ⟨k1, h1, pp, M1, M2, a, nd, b, c⟩ := w'
    obtain ⟨⟨u, e, ru⟩, _⟩ := c
    cases e
    exact k v d H' p (fun b o q => k1 b o (fun z => by cases z) q) (ru.mono (era_less fun b hb => List.mem_append_left _ hb))
  exact hw _ ds Φ rfl c _ _ _ _ _ w ⟨fun σ H' env n p w' => fin .non .non n H' env σ p (w'.push fun _ _ => .non), fun v d n H' env σ p w' => fin v d n H' env σ p w', fun _ _ _ _ z => z.elim, fun _ _ _ _ z => z.elim⟩
theorem P_body {C : List D → Nat → (D → Nat → Prop) → Prop} (h : spP K C vs H Q Ex) (hw : ∀ (W : Wo) n ds Φ, W.K = K → C ds n Φ → WpS W t n (envP N ds) { nx := fun _ n => Φ .non n, rt := Φ }) :
    t { nx := fun _ H' => Q .non H', rt := Q } (start N vs) H := by
  obtain ⟨M, p, us, n, ds, Φ, rfl, hp, hM, po, r, c, k⟩ := h
  have w : Wd ⟨K, some p, M, H⟩ n (envP N ds) (start N (.ref p :: us)) [] [] H := by
    refine ⟨fun b o _ e => e, hM, fun q e => (by cases e; exact ⟨hp, po⟩), [], [], fun p hp => (by cases hp), List.nodup_nil, ?_, trivial⟩
    have e : M ++ ([] ++ []) = M := by simp
    show EnvOk _ (era H (M ++ ([] ++ []))) H _ _ []
    rw [e]
    unfold envP L2.start
    rw [List.length_cons, r.len]
    exact ⟨⟨p, rfl, rfl⟩, EnvOk.ofL r (env_any _)⟩
  have fin : ∀ v d n H' env σ, Φ d n → Wd ⟨K, some p, M, H⟩ n env σ [.d d] [some v] H' → Q v H' := fun v d n H' env σ q w' => by
    obtain ⟨k1, h1, pp, M1, M2, a, nd, b, c⟩ := w'
    obtain ⟨⟨u, e, ru⟩, _⟩ := c
    cases e
    exact k v d n H' q (fun b o hb e => k1 b o (fun z => hb (Option.some.inj z).symm) e) (pp p rfl).2 (ru.mono (era_less fun b hb => List.mem_append_left _ hb))
  exact hw _ n ds Φ rfl c _ _ _ _ _ w ⟨fun σ H' env n p w' => fin .non .non n H' env σ p (w'.push fun _ _ => .non), fun v d n H' env σ p w' => fin v d n H' env σ p w', fun _ _ _ _ z => z.elim, fun _ _ _ _ z => z.elim⟩
end

section
variable {W : Wo} {n m : Nat} {env stk : List E} {σ : St} {ds : List D} {vs : St} {us : List V} {H H' : Hp} {d x y : D} {v vx vy : V} {i j : Nat} {Φ : D → Nat → Prop} {O : Out} {te : TE} {ta : TA} {t : TS} {xs : List D}
theorem wp_call {C : List D → (D → Prop) → Prop} {Ex : XK} (q : WpA W ta n env fun ds n' => C ds fun d => Φ d n') : Wp W (tCall (spD W.K C) [] Ex ta) n env Φ := fun σ stk vs H Q w k =>
  q σ stk vs H _ w fun us ds n' H' q' l w' => by
    have hid := w'.hidH
    obtain ⟨k1, h1, pp, M1, M2, a, nd, b, c⟩ := w'
    obtain ⟨c1, c2⟩ := EnvOk.toL l c
    rw [List.append_nil]
    refine ⟨W.M0 ++ (M1 ++ M2), ds, _, fun p hp => ?_, c1, q', fun v d H2 p s r => k v d n' H2 p ?_⟩
    · rcases List.mem_append.mp hp with z | z
      · exact hid p z
      · exact (a p z).2
    · refine ⟨fun b o n q => s _ _ (k1 b o n q), h1, fun q hq => ⟨(pp q hq).1, (pp q hq).2.mono s⟩, M1, M2, fun q hq => ⟨(a q hq).1, fun z => ?_⟩, nd, b.mono (era_mono _ s) s, ⟨v, rfl, r⟩, c2.mono (era_mono _ s) s⟩
      cases r : H' q with
      | none => exact (a q hq).2 r
      | some o => rw [s _ _ r] at z; cases z
theorem wp_callP {C : List D → Nat → (D → Nat → Prop) → Prop} {Ex : XK} (hi : env[i]? = some .pot) (q : WpA W ta n env fun ds n' => C ds n' Φ) : Wp W (tCall (spP W.K C) [] Ex (tCons (tVar i) ta)) n env Φ := fun σ stk vs H Q w k => by
  obtain ⟨p, hp1, hp2⟩ : ∃ p, σ[i]? = some (some (.ref p)) ∧ W.P = some p := by
    obtain ⟨k1, h1, pp, M1, M2, a, nd, b, c⟩ := w
    exact b.getP hi
  refine ⟨.ref p, hp1, q σ stk vs H _ w fun us ds n' H' q' l w' => ?_⟩
  have hid := w'.hidH
  obtain ⟨k1, h1, pp, M1, M2, a, nd, b, c⟩ := w'
  obtain ⟨c1, c2⟩ := EnvOk.toL l c
  obtain ⟨p1, p2⟩ := pp p hp2
  refine ⟨W.M0 ++ (M1 ++ M2), p, us ++ [], n', ds, Φ, by rw [List.append_nil]; simp, List.mem_append_left _ p1, fun p hp => ?_, p2, by rw [List.append_nil]; exact c1, q', fun v d n2 H2 f s po r => k v d n2 H2 f ?_⟩
  · rcases List.mem_append.mp hp with z | z
    · exact hid p z
    · exact (a p z).2
  · have es : Same (era H' (W.M0 ++ (M1 ++ M2))) (era H2 (W.M0 ++ (M1 ++ M2))) := fun b o e => by
      obtain ⟨e1, e2⟩ := era_some e
      exact era_of (s b o (by rintro rfl; exact e2 (List.mem_append_left _ p1)) e1) e2
    have np : ∀ q ∈ M1 ++ M2, q ≠ p := fun q hq z => by
      subst z
      exact h1 _ p1 (a _ hq).1
    refine ⟨fun b o n q => s b o (fun z => n (by rw [z]; exact hp2)) (k1 b o n q), h1, fun q hq => ?_, M1, M2, fun q hq => ⟨(a q hq).1, fun z => ?_⟩, nd,
      EnvOk.mono2 es (fun q hq o e => s q o (np q (List.mem_append_left _ hq)) e) b, ⟨v, rfl, r⟩, EnvOk.mono2 es (fun q hq o e => s q o (np q (List.mem_append_right _ hq)) e) c2⟩
    · rw [hp2] at hq
      cases hq
      exact ⟨p1, po⟩
    · cases r : H' q with
      | none => exact (a q hq).2 r
      | some o => rw [s _ _ (np q hq) r] at z; cases z

/-! ## lists that a def fills -/
theorem Wd.ownAt (w : Wd W n env σ stk vs H) (hi : env[i]? = some (.own xs)) : ∃ p ws, σ[i]? = some (some (.ref p)) ∧ H p = some (.lst ws) ∧ ws.length = xs.length := by
  obtain ⟨k1, h1, pp, M1, M2, a, nd, b, c⟩ := w
  obtain ⟨p, Ma, Mb, ws, e1, e2, e3, e4, _⟩ := b.owned hi
  exact ⟨p, ws, e2, e3, e4.len⟩
theorem Wd.appendE (w : Wd W n env σ (.d y :: stk) (some vy :: vs) H) (hi : env[i]? = some (.own xs)) {p : Addr} {ws : List V} (hp : σ[i]? = some (some (.ref p))) (hH : H p = some (.lst ws)) :
    Wd W n (env.set i (.own (xs ++ [y]))) σ stk vs (upd H p (.lst (ws ++ [vy]))) := by
  obtain ⟨k1, h1, pp, M1, M2, a, nd, b, c⟩ := w
  obtain ⟨⟨u, e, ry⟩, c⟩ := c
  cases e
  obtain ⟨p', Ma, Mb, ws', e1, e2, e3, e4, f, g⟩ := b.owned hi
  rw [hp] at e2; cases e2
  rw [hH] at e3; cases e3
  subst e1
  have p0 := (a p (by simp)).1
  have hU : era (upd H p (.lst (ws ++ [vy]))) (W.M0 ++ ((Ma ++ p :: Mb) ++ M2)) = era H (W.M0 ++ ((Ma ++ p :: Mb) ++ M2)) := by
    funext b
    unfold era
    split
    · rfl
    · rename_i z
      rw [upd_ne]
      rintro rfl
      exact z (by simp)
  have nq : ∀ q ∈ Ma ++ Mb, q ≠ p := fun q hq z => by
    subst z
    have nd1 := (List.nodup_append.mp nd).1
    exact (List.nodup_cons.mp (List.perm_middle.nodup_iff.mp nd1)).1 hq
  have nq2 : ∀ q ∈ M2, q ≠ p := fun q hq z => by
    subst z
    exact (List.nodup_append.mp nd).2.2 q (by simp) q hq rfl
  refine ⟨fun b o n q => ?_, h1, fun q hq => ?_, Ma ++ p :: Mb, M2, fun q hq => ⟨(a q hq).1, ?_⟩, nd, ?_, ?_⟩
  · rw [upd_ne (by rintro rfl; rw [p0] at q; cases q)]; exact k1 b o n q
  · obtain ⟨z1, z2⟩ := pp q hq
    refine ⟨z1, ?_⟩
    obtain ⟨a1, b1, c1, z3, z4⟩ := z2
    refine ⟨a1, b1, c1, ?_, z4⟩
    rw [upd_ne (by rintro rfl; exact h1 _ z1 p0)]; exact z3
  · by_cases z : q = p
    · subst z; rw [upd_same]; exact fun z => by cases z
    · rw [upd_ne z]; exact (a q hq).2
  · rw [hU]
    exact f _ _ _ _ (Same.refl _) (fun q hq o e => by rw [upd_ne (nq q hq)]; exact e) upd_same (e4.app (.cons ry .nil))
  · rw [hU]
    exact EnvOk.mono2 (Same.refl _) (fun q hq o e => by rw [upd_ne (nq2 q hq)]; exact e) c
theorem Wd.freezeE (w : Wd W n env σ stk vs H) (hi : env[i]? = some (.own xs)) : Wd W n (env.set i (.d (.lst xs))) σ stk vs H := by
  have w0 := w
  obtain ⟨k1, h1, pp, M1, M2, a, nd, b, c⟩ := w
  obtain ⟨p, Ma, Mb, ws, e1, e2, e3, e4, f, g⟩ := b.owned hi
  subst e1
  have pM : List.Perm ((Ma ++ p :: Mb) ++ M2) (p :: ((Ma ++ Mb) ++ M2)) := (List.Perm.append_right M2 List.perm_middle)
  have nd2 := List.nodup_cons.mp (pM.nodup_iff.mp nd)
  have es : Same (era H (W.M0 ++ ((Ma ++ p :: Mb) ++ M2))) (era H (W.M0 ++ ((Ma ++ Mb) ++ M2))) := era_less fun b hb => by
    rcases List.mem_append.mp hb with z | z
    · exact List.mem_append_left _ z
    · exact List.mem_append_right _ (pM.symm.subset (List.mem_cons_of_mem _ z))
  refine ⟨k1, h1, pp, Ma ++ Mb, M2, fun q hq => a q (pM.symm.subset (List.mem_cons_of_mem _ hq)), nd2.2, g _ _ es (.lst (era_of e3 fun z => ?_) (e4.mono es)), c.mono es (Same.refl _)⟩
  rcases List.mem_append.mp z with z | z
  · exact h1 p z (a p (by simp)).1
  · exact nd2.1 z
theorem ws_freeze (hi : env[i]? = some (.own xs)) (q : WpS W t n (env.set i (.d (.lst xs))) O) : WpS W t n env O := fun σ stk vs H De w f => q σ stk vs H De (w.freezeE hi) f
theorem wp_freeze (hi : env[i]? = some (.own xs)) (q : Wp W te n (env.set i (.d (.lst xs))) Φ) (hb : env = env := by rfl) : ∀ σ stk vs H (Q : VK), Wd W n env σ stk vs H → (∀ v d n' H', Φ d n' → Wd W n' (env.set i (.d (.lst xs))) σ (.d d :: stk) (some v :: vs) H' → Q v H') → te σ H Q :=
  fun σ stk vs H Q w k => q σ stk vs H Q (w.freezeE hi) k
/-- a new list in a slot, to be filled -/
theorem Wd.ownSet (i : Nat) (hi : i < env.length) (hno : ∀ zs, env[i]? ≠ some (.own zs)) (w : Wd W n env σ (.own xs :: stk) (some v :: vs) H) : Wd W n (env.set i (.own xs)) (σ.set i (some v)) stk vs H := by
  obtain ⟨k1, h1, pp, M1, M2, a, nd, b, c⟩ := w
  cases M2 with
  | nil => exact c.elim
  | cons p M2 =>
    obtain ⟨⟨ws, e, hp, r⟩, c⟩ := c
    cases e
    obtain ⟨Ma, Mb, e1, b2⟩ : ∃ Ma Mb, M1 = Ma ++ Mb ∧ EnvOk W (era H (W.M0 ++ (M1 ++ p :: M2))) H (env.set i (.own xs)) (σ.set i (some (.ref p))) (Ma ++ p :: Mb) := by
      clear a nd c k1 h1 pp
      generalize hU : era H (W.M0 ++ (M1 ++ p :: M2)) = U at *
      clear hU
      induction env generalizing σ M1 i with
      | nil => simp at hi
      | cons e0 es ih =>
        cases σ with
        | nil => cases e0 <;> exact b.elim
        | cons o σ =>
          cases i with
          | zero =>
            refine ⟨[], M1, rfl, ⟨ws, rfl, hp, r⟩, ?_⟩
            cases e0 with
            | any => exact b
            | d x => exact b.2
            | own z => exact absurd rfl (hno z)
            | pot => exact b.2
          | succ i =>
            have hno' : ∀ zs, es[i]? ≠ some (.own zs) := fun zs e => hno zs (by simpa using e)
            cases e0 with
            | any =>
              obtain ⟨Ma, Mb, e, q⟩ := ih i (by simpa using hi) hno' _ b
              exact ⟨Ma, Mb, e, q⟩
            | d x =>
              obtain ⟨Ma, Mb, e, q⟩ := ih i (by simpa using hi) hno' _ b.2
              exact ⟨Ma, Mb, e, b.1, q⟩
            | own z =>
              cases M1 with
              | nil => exact b.elim
              | cons p' M1 =>
                obtain ⟨Ma, Mb, e, q⟩ := ih i (by simpa using hi) hno' _ b.2
                exact ⟨p' :: Ma, Mb, by rw [e]; rfl, b.1, q⟩
            | pot =>
              obtain ⟨Ma, Mb, e, q⟩ := ih i (by simpa using hi) hno' _ b.2
              exact ⟨Ma, Mb, e, b.1, q⟩
    subst e1
    have pM : List.Perm ((Ma ++ Mb) ++ p :: M2) ((Ma ++ p :: Mb) ++ M2) :=
      List.perm_middle.trans (List.Perm.symm (List.Perm.append_right M2 List.perm_middle))
    have es : Same (era H (W.M0 ++ ((Ma ++ Mb) ++ p :: M2))) (era H (W.M0 ++ ((Ma ++ p :: Mb) ++ M2))) := era_less fun b hb => by
      rcases List.mem_append.mp hb with z | z
      · exact List.mem_append_left _ z
      · exact List.mem_append_right _ (pM.symm.subset z)
    exact ⟨k1, h1, pp, Ma ++ p :: Mb, M2, fun q hq => a q (pM.symm.subset hq), pM.nodup_iff.mp nd, b2.mono es (Same.refl _), c.mono es (Same.refl _)⟩
theorem ws_own (hi : i < env.length) (hno : ∀ zs, env[i]? ≠ some (.own zs)) (q : O.nx (env.set i (.own [])) n) : WpS W (tAsg (tLst tNil) (gName i)) n env O := fun σ stk vs H De w f =>
  ⟨Nat.zero_le _, fun p hp => f.nx _ _ _ n q ((w.newOwn hp).ownSet i hi hno)⟩
theorem ws_append (hi : env[i]? = some (.own xs)) (q : Wp W te n env fun y n' => xs.length < sizeLine ∧ O.nx (env.set i (.own (xs ++ [y]))) n') : WpS W (tDrop (tBM W.K "list" rAppend (tVar i) (tCons te tNil))) n env O := fun σ stk vs H De w f => by
  obtain ⟨p, ws, e1, e2, e3⟩ := w.ownAt hi
  refine ⟨.ref p, e1, .inl ⟨rfl, _, .inl (.inl e2)⟩, q σ stk vs H _ w fun vy y n' H' q' w' => ?_⟩
  obtain ⟨p', ws', e1', e2', e3'⟩ := w'.pop.ownAt hi
  rw [e1] at e1'; cases e1'
  exact ⟨p, ws', vy, rfl, rfl, e2', by rw [e3']; exact q'.1, f.nx _ _ _ n' q'.2 (w'.appendE hi e1 e2')⟩
theorem ws_par (q : WpA W ta n env fun ds n' => ∃ a b, ds = [a, b] ∧ O.nx ((env.set i (.d a)).set j (.d b)) n') : WpS W (tPar i j ta) n env O := fun σ stk vs H De w f =>
  q σ stk vs H _ w fun us ds n' H' q' l w' => by
    obtain ⟨a, b, rfl, q'⟩ := q'
    match us, l with
    | [u, u'], _ =>
      have w2 : Wd W n' env σ (.d a :: .d b :: stk) (some u :: some u' :: vs) H' := w'
      exact ⟨u, u', rfl, f.nx _ _ _ n' q' ((w2.set i).set j)⟩
end
end FR
namespace FR
open PySem PySem.Spec PyProof.Rows L2

/-! ## defs of the text by name -/
def DefIn (K : PySem.W.Frag) (mg : Str → Option Value) (x : Str) (st : Stmt) (ps : List Str) : Prop := ∃ a fd, Fun K x x st a fd ∧ mg x = some (.ref a) ∧ Binds K fd ps []
def Has (P : Program) (w : World) (K : PySem.W.Frag) (mg : Str → Option Value) (base : Heap) (k : Nat) (x : Str) (ps : List Str) (sp : Sp) : Prop :=
  ∃ a fd, FnG P w K mg base k a fd ps sp ∧ mg x = some (.ref a) ∧ PySem.W.keepIn K (.ref a) = true ∧ Binds K fd ps []
/-- a constant of the module -/
def Gc (mg : Str → Option Value) (x : Str) (v : V) : Prop := ∃ u, mg x = some u ∧ RelV v u

section
variable {P : Program} {w : World} {K : PySem.W.Frag} {mg : Str → Option Value} {base : Heap} {k : Nat} {x : Str} {st : Stmt} {N ps : List Str}
theorem Has.mono {j : Nat} {sp : Sp} (h : Has P w K mg base j x ps sp) (l : j ≤ k) : Has P w K mg base k x ps sp := by
  obtain ⟨a, fd, h1, h2⟩ := h
  exact ⟨a, fd, h1.mono l, h2⟩
theorem has_sp {sp : Sp} (Dd : DefIn K mg x st ps) (S : FnScope N ps (defScope st)) (len : ∀ vs H Q E, sp vs H Q E → vs.length = ps.length)
    (hb : ∀ (f : Addr) (cdv : Value) (B : Around) (out : List Env) (t : Shared) (H : Hp) (vs : List V) (Q : VK) (E : XK), B.guards = some [] → Room k (B.deeper (envOfC x (defScope st) t.heap.objs.size f cdv)) → sp vs H Q E →
      ∃ r, PSs (cxOf CX0 P w K mg base N x (defScope st) f cdv B out t H E).nox (defBody st) r ∧ r { nx := fun _ H' => Q .non H', rt := Q } (L2.start N vs) H) :
    Has P w K mg base (k + 1) x ps sp := by
  obtain ⟨a, fd, F, hm, hbi⟩ := Dd
  exact ⟨a, fd, fnG_of F S len (fun cdv B out t H vs Q E gu hr h => hb a cdv B out t H vs Q E gu hr h), hm, F.kp, hbi⟩
theorem has_D {C : List D → (D → Prop) → Prop} (Dd : DefIn K mg x st ps) (S : FnScope N ps (defScope st)) (len : ∀ ds Φ, C ds Φ → ds.length = ps.length)
    (hb : ∀ (f : Addr) (cdv : Value) (B : Around) (out : List Env) (t : Shared) (H : Hp) (E : XK), B.guards = some [] → Room k (B.deeper (envOfC x (defScope st) t.heap.objs.size f cdv)) →
      ∃ r, PSs (cxOf CX0 P w K mg base N x (defScope st) f cdv B out t H E).nox (defBody st) r ∧ ∀ (W : Wo) ds Φ, W.K = K → C ds Φ → WpS W r 0 (envD N ds) { nx := fun _ _ => Φ .non, rt := fun d _ => Φ d }) :
    Has P w K mg base (k + 1) x ps (spD K C) := by
  refine has_sp Dd S (fun vs H Q E h => ?_) fun f cdv B out t H vs Q E gu hr h => ?_
  · obtain ⟨M, ds, Φ, _, r, c, _⟩ := h
    rw [r.len, len ds Φ c]
  · obtain ⟨r, h1, h2⟩ := hb f cdv B out t H E gu hr
    exact ⟨r, h1, D_body h h2⟩
theorem has_P {C : List D → Nat → (D → Nat → Prop) → Prop} (Dd : DefIn K mg x st ps) (S : FnScope N ps (defScope st)) (len : ∀ ds n Φ, C ds n Φ → ds.length + 1 = ps.length)
    (hb : ∀ (f : Addr) (cdv : Value) (B : Around) (out : List Env) (t : Shared) (H : Hp) (E : XK), B.guards = some [] → Room k (B.deeper (envOfC x (defScope st) t.heap.objs.size f cdv)) →
      ∃ r, PSs (cxOf CX0 P w K mg base N x (defScope st) f cdv B out t H E).nox (defBody st) r ∧ ∀ (W : Wo) n ds Φ, W.K = K → C ds n Φ → WpS W r n (envP N ds) { nx := fun _ n => Φ .non n, rt := Φ }) :
    Has P w K mg base (k + 1) x ps (spP K C) := by
  refine has_sp Dd S (fun vs H Q E h => ?_) fun f cdv B out t H vs Q E gu hr h => ?_
  · obtain ⟨M, p, us, n, ds, Φ, rfl, _, _, _, r, c, _⟩ := h
    rw [List.length_cons, r.len, len ds n Φ c]
  · obtain ⟨r, h1, h2⟩ := hb f cdv B out t H E gu hr
    exact ⟨r, h1, P_body h h2⟩
end
section
variable {X : Cx} {k : Nat} {ps : List Str} {sp : Sp} {x : Str} {p pos : Pos} {e : Expr} {es : List Expr} {t : TA} {v : V}
theorem pe_has (h : Has X.prog X.w X.K X.mg X.base k x ps sp) (gu : X.A.guards = some []) (hr : Room k X.A) (hg : Gl X x) (ha : PA X (e :: es) t) (hdb : (x == ("__debug__" : Str)) = false := by decide)
    (he : starEach (e :: es) X.env = (false, eval e X.env) :: starEach es X.env := by rfl) (hpl : (backTo pos (starEach es X.env)).any (·.1) = false := by rfl) :
    PE X (.Call (.Name x p) (e :: es) [] pos) (tCall sp [] E0 t) := by
  obtain ⟨a, fd, h1, h2, h3, h4⟩ := h
  exact pe_callG h1 gu hr hg h2 h3 h4 ha hdb he hpl
theorem pe_gc (h : Gc X.mg x v) (hg : Gl X x) (hdb : (x == ("__debug__" : Str)) = false := by decide) (hcd : (x == ("__classdict__" : Str)) = false := by decide) : PE X (.Name x p) (tC v) := by
  obtain ⟨u, h1, h2⟩ := h
  first
    | exact pe_glob hg h1 h2 hdb hcd
    | exact pe_glob hg h1 h2 hdb
theorem units_of {k : Nat} {B : Around} (hr : Room k B) : B.units + 200 < cLine := by have := hr.un; omega
end
/-! ## facts of the head -/
section
variable {K : PySem.W.Frag} {mg : Str → Option Value} {h : Heap} {x : Str} {st : Stmt} {ps : List Str} {f : Addr} {oc kV dc pm cd ct : Value} {od an : Option Addr} {sl : Array (Option Value)}
theorem def_in (X : K.In h) (G : h.Ns mainGlobals mg) (a : PySem.W.nsIn K mainGlobals x = some (some (.ref f))) (l : K.lookup f = some ⟨oc, od, .func (PySem.W.fnOf x x (defArgs st) (defBody st) (defScope st) .none kV dc pm an cd ct), sl⟩)
    (c : PySem.W.codeIn K cd x = true) (k : PySem.W.keepIn K (.ref f) = true) (b : ∀ (kV doc pm : Value) (an : Option Addr) (cdv ct : Value) (us : List Value), us.length = ps.length → bindArgs (PySem.W.fnOf x x (defArgs st) (defBody st) (defScope st) .none kV doc pm an cdv ct) ⟨us, []⟩ = pure (ps.zip us)) : DefIn K mg x st ps :=
  ⟨f, _, fun_mk (st := st) l c k, PySem.W.mg_of X G a, (fun_mk (st := st) l c k).binds b⟩
theorem gc_of (X : K.In h) (G : h.Ns mainGlobals mg) {u : Value} {v : V} (a : PySem.W.nsIn K mainGlobals x = some (some u)) (r : RelV v u) : Gc mg x v := ⟨u, PySem.W.mg_of X G a, r⟩
theorem no_of (X : K.In h) (G : h.Ns mainGlobals mg) (a : PySem.W.nsIn K mainGlobals x = some none) : mg x = none := PySem.W.mg_none_of X G a
end
/-! ## comprehensions whose parts draw nothing -/
section
variable {W : Wo} {n : Nat} {env : List E} {Φ : D → Nat → Prop} {wi : TI} {g : TG} {tt : TT} {te : TE} {sl L : List Nat} {f : D → D} {p : D → Bool}
theorem wp_lcf (hL : ∀ i ∈ L, i ∈ sl) (q : WpI W wi n env fun ds n1 => ds.length ≤ sizeLine ∧
    (∀ d ∈ ds, WpG W g L d n1 (wipeE (env.map hideE) sl) fun env2 m2 => m2 = n1 ∧ WpT W tt n1 env2 fun b m3 => m3 = n1 ∧ b = p d ∧ (p d = true → Wp W te n1 env2 fun y m4 => m4 = n1 ∧ y = f d)) ∧ Φ (.lst ((ds.filter p).map f)) n1) :
    Wp W (tLc wi g tt te sl) n env Φ := by
  refine wp_lc hL fun σ stk vs H R w k => q σ stk vs H R w fun J ds n' H' stk2 vs2 q' l w' it => k J ds n' H' stk2 vs2 ?_ l w' it
  obtain ⟨h1, h2, h3⟩ := q'
  refine ⟨fun i acc m => m = n' ∧ acc = ((ds.take i).filter p).map f, ⟨rfl, by simp⟩, h1, ?_, ?_⟩
  · rintro i d acc m e ⟨rfl, rfl⟩
    have hd : d ∈ ds := List.mem_of_getElem? e
    have et : ds.take (i + 1) = ds.take i ++ [d] := by
      rw [List.take_succ, e]; rfl
    refine fun σ stk vs v H Q w k => h2 d hd σ stk vs v H Q w fun σ' env' n2 H2 s ⟨e2, q2⟩ w2 => k σ' env' n2 H2 s ?_ w2
    subst e2
    refine fun σ stk vs H Q w k => q2 σ stk vs H Q w fun b n3 H3 ⟨e3, e4, q3⟩ w3 => k b n3 H3 ?_ w3
    subst e3 e4
    cases hp : p d with
    | true =>
      refine fun σ stk vs H Q w k => q3 hp σ stk vs H Q w fun v y n4 H4 ⟨e5, e6⟩ w4 => k v y n4 H4 ⟨e5, ?_⟩ w4
      subst e6
      rw [et, List.filter_append, List.map_append]
      simp [hp]
    | false =>
      refine ⟨rfl, ?_⟩
      rw [et, List.filter_append, List.map_append]
      simp [hp]
  · rintro acc m ⟨rfl, rfl⟩ _
    rw [List.take_length]
    exact h3
theorem wp_map (hL : ∀ i ∈ L, i ∈ sl) (q : WpI W wi n env fun ds n1 => ds.length ≤ sizeLine ∧
    (∀ d ∈ ds, WpG W g L d n1 (wipeE (env.map hideE) sl) fun env2 m2 => m2 = n1 ∧ Wp W te n1 env2 fun y m4 => m4 = n1 ∧ y = f d) ∧ Φ (.lst (ds.map f)) n1) :
    Wp W (tLc wi g tYes te sl) n env Φ := by
  refine wp_lcf (p := fun _ => true) (f := f) hL fun σ stk vs H R w k => q σ stk vs H R w fun J ds n' H' stk2 vs2 q' l w' it => k J ds n' H' stk2 vs2 ?_ l w' it
  obtain ⟨h1, h2, h3⟩ := q'
  refine ⟨h1, fun d hd σ stk vs v H Q w k => h2 d hd σ stk vs v H Q w fun σ' env' n2 H2 s ⟨e2, q2⟩ w2 => k σ' env' n2 H2 s ⟨e2, wpT_yes ⟨rfl, rfl, fun _ => q2⟩⟩ w2, ?_⟩
  rw [List.filter_eq_self.mpr (fun _ _ => rfl)]
  exact h3
end
end FR
namespace FR
open PySem PySem.Spec PyProof.Rows L2
/-! ## rules that name the written part outright -/
section
variable {X : Cx} {K : PySem.W.Frag}
theorem k_isi (h : X.K = K) : CallR X (.builtin "isinstance") (rIsi K) := h ▸ call_isi
theorem k_all (h : X.K = K) (hc : X.calm = true) : CallR X (.builtin "all") (rAll K) := h ▸ cr_all hc
theorem k_any (h : X.K = K) (hc : X.calm = true) : CallR X (.builtin "any") (rAny K) := h ▸ cr_any hc
theorem k_len (h : X.K = K) : CallR X (.builtin "len") (fun xs H Q => ∃ x n, xs = [x] ∧ LenV K x H n ∧ Q (.int n) H) := h ▸ call_len
theorem k_repr (h : X.K = K) (gu : X.A.guards = some []) (hu : X.A.units + 200 < cLine) (hb : SysB X.base) : CallR X (.builtin "repr") (rRepr K) := h ▸ call_repr gu hu hb
theorem k_in (h : X.K = K) : OpR X (compareOp .In) (rIn K false) := h ▸ op_in_seq
theorem k_notin (h : X.K = K) : OpR X (compareOp .NotIn) (rIn K true) := h ▸ op_notIn_seq
theorem k_ixT (h : X.K = K) : IxR X (rIxT K) := h ▸ ix_tup
theorem k_ixL (h : X.K = K) : IxR X (rIxL K) := h ▸ ix_list
theorem k_slT (h : X.K = K) : SlR X (rSlA K) := h ▸ sl_tupA
theorem k_catT (h : X.K = K) : OpR X (binaryOp .Add) (rCatA K) := h ▸ op_catA
theorem k_eqD (h : X.K = K) (hu : X.A.units + 64 < cLine) : OpR X (compareOp .Eq) (rEqD K) := h ▸ op_eqD hu
theorem k_neD (h : X.K = K) (hu : X.A.units + 64 < cLine) : OpR X (compareOp .NotEq) (rNeD K) := h ▸ op_neD hu
theorem k_tuple (h : X.K = K) : CallR X (.type "tuple") (fun xs H Q => ∃ p ys, xs = [.ref p] ∧ ((SqL K H p ys ∧ ∀ l, H l = none → Q (.ref l) (upd H l (.tup ys))) ∨ (SqT K H p ys ∧ Q (.ref p) H))) := h ▸ call_tuple_of
theorem k_list (h : X.K = K) : CallR X (.type "list") (fun xs H Q => ∃ p ys, xs = [.ref p] ∧ (SqL K H p ys ∨ SqT K H p ys) ∧ ∀ l, H l = none → Q (.ref l) (upd H l (.lst ys))) := h ▸ call_list_of
theorem k_tup (h : X.K = K) {tg l : Expr} {tl : TE} (hl : PE X l tl) : PI X tg l (iTup K tl) := h ▸ pi_tup hl
theorem k_lst (h : X.K = K) {tg l : Expr} {tl : TE} (hl : PE X l tl) : PI X tg l (iList K tl) := h ▸ pi_list hl
theorem k_zip (h : X.K = K) {e e2 : Expr} {ta : TA} {p pos tpos : Pos} {elts : List Expr} {kk : Nat} (hg : Gl X "zip") (hm : X.mg "zip" = none) (ha : PA X [e, e2] ta)
    (h1 : starEach [e, e2] X.env = (false, eval e X.env) :: starEach [e2] X.env := by rfl) (h2 : ((backTo pos (starEach [e2] X.env)).any fun x => x.fst) = false := by rfl) :
    PI X (.Tuple elts kk tpos) (.Call (.Name "zip" p) [e, e2] [] pos) (RZ.iZipA K ta) := h ▸ RZ.pi_zipA hg hm ha h1 h2
theorem k_tgt (h : X.K = K) {es : List Expr} {k n : Nat} {t : TGs} {pos : Pos} (hc : X.calm = true) (hp : PGs X es t) (hn : (assignEach es X.env).length = n := by rfl) (hst : (assignEach es X.env).findIdx? (·.1) = none := by rfl) : PG X (.Tuple es k pos) (gTup K n t) :=
  h ▸ pg_tup hc hp hn hst
theorem k_app (h : X.K = K) {xs e : Expr} {to te : TE} {apos cpos : Pos} (ho : PE X xs to) (he : PE X e te)
    (hp : PE X (.Call (.Attribute xs "append" apos) [e] [] cpos) (tBM X.K "list" rAppend to (tCons te tNil))) : PE X (.Call (.Attribute xs "append" apos) [e] [] cpos) (tBM K "list" rAppend to (tCons te tNil)) := h ▸ hp
def CPowW (i j : Int) : Prop := 0 ≤ j ∧ (Builtin.Int.intBits i : Int) * j ≤ 2 ^ 27
theorem op_powW : OpR X (binaryOp .Pow) (rI CPowW fun i j => .int (i ^ j.toNat)) := opI fun _ _ _ _ _ _ _ hc q => pow_int hc.1 hc.2 q
end
end FR
namespace FR
open PySem PySem.Spec PyProof.Rows L2 HT

/-! ## t[::-1] of a tuple -/
theorem adj_rev (n : Nat) : Builtin.Slice.sliceAdjust none none (-1) (n : Int) = ((n : Int) - 1, -1) := rfl
theorem places_rev (n : Nat) : Builtin.Slice.slicePlaces ((n : Int) - 1) (-1) (-1) = n := by
  unfold Builtin.Slice.slicePlaces
  rw [if_neg (by decide)]
  by_cases h : n = 0
  · subst h; rfl
  · rw [if_pos (by omega), show -(-1 : Int) = 1 from rfl, Int.ediv_one]
    omega
theorem fm_map {α β : Type} {f : α → Option β} {g : α → β} : ∀ {l : List α}, (∀ x ∈ l, f x = some (g x)) → l.filterMap f = l.map g
  | [], _ => rfl
  | x :: l, h => by rw [List.filterMap_cons, h x (by simp), List.map_cons, fm_map fun y hy => h y (by simp [hy])]
theorem pick_rev (xs : Array Value) : ((List.range xs.size).filterMap fun (k : Nat) => xs[((xs.size : Int) - 1 + (k : Int) * (-1)).toNat]?).toArray = xs.toList.reverse.toArray := by
  congr 1
  obtain ⟨l⟩ := xs
  show (List.range l.length).filterMap (fun (k : Nat) => l.toArray[((l.length : Int) - 1 + (k : Int) * (-1)).toNat]?) = l.reverse
  have e : ∀ k ∈ List.range l.length, l.toArray[((l.length : Int) - 1 + (k : Int) * (-1)).toNat]? = some (l.reverse.getD k default) := fun k hk => by
    have hk' := List.mem_range.mp hk
    have e1 : ((l.length : Int) - 1 + (k : Int) * (-1)).toNat = l.length - 1 - k := by omega
    rw [e1, List.getElem?_toArray, List.getD_eq_getElem?_getD, List.getElem?_reverse hk', List.getElem?_eq_getElem (by omega)]
    rfl
  have e2 : (List.range l.length).filterMap (fun (k : Nat) => l.toArray[((l.length : Int) - 1 + (k : Int) * (-1)).toNat]?) = (List.range l.length).map fun k => l.reverse.getD k default := fm_map e
  rw [e2]
  apply List.ext_getElem
  · simp
  · intro i h1 h2
    have h2' : i < l.length := by simpa using h2
    rw [List.getElem_map, List.getElem_range, List.getD_eq_getElem?_getD, List.getElem?_eq_getElem h2]
    rfl
section
variable {prog : Program} {w : World} {A : Around} {E : Value → Shared → Prop} {s : Shared}
theorem applied_rev {sl : Addr} {t : Tok} {n : Nat} {Q : Int × Int × Nat → Shared → Prop} (hs : s.heap.IsSliceOf sl .none .none (.int (-1) t)) (h : Q ((n : Int) - 1, -1, n) s) : wpAny (model prog w) A (Builtin.Slice.sliceApplied (.ref sl) (pure (n : Int))) Q E s := by
  obtain ⟨os, hos, hcs, hds⟩ := id hs
  unfold Builtin.Slice.sliceApplied Builtin.Slice.sliceFields
  refine wpAny_bind (wpAny_bind (wpAny_field hos hds (x := .none) rfl (wpAny_bind (wpAny_field hos hds (x := .none) rfl (wpAny_bind (wpAny_field hos hds (x := .int (-1) t) rfl (wpAny_pure ?_)))))))
  refine wpAny_bind (slicePart_int ?_)
  show wpAny _ _ (if ((-1 : Int) == 0) = true then _ else _) _ _ s
  rw [if_neg (by decide)]
  refine wpAny_bind (slicePart_none (wpAny_bind (slicePart_none (wpAny_bind (wpAny_pure ?_)))))
  show wpAny _ _ (match Builtin.Slice.sliceAdjust none none (-1) (n : Int) with | (lo, hi) => pure (lo, (-1 : Int), Builtin.Slice.slicePlaces lo hi (-1))) _ _ s
  rw [adj_rev]
  show wpAny _ _ (pure ((n : Int) - 1, (-1 : Int), Builtin.Slice.slicePlaces ((n : Int) - 1) (-1) (-1))) _ _ s
  rw [places_rev]
  exact wpAny_pure h
theorem item_rev {t sl : Addr} {items : Array Value} {tk : Tok} {Q : Value → Shared → Prop} (ht : IsTup s.heap t items) (hs : s.heap.IsSliceOf sl .none .none (.int (-1) tk))
    (h : Q (.ref s.heap.objs.size) { s with heap := s.heap.push { cls := .type "tuple", data := .seq items.toList.reverse.toArray } }) (hsz : items.size ≤ sizeLine) : wpAny (model prog w) A (getItem (.ref t) (.ref sl)) Q E s := by
  have fit : sizeOk (.seq items.toList.reverse.toArray) := by
    show items.toList.reverse.toArray.size ≤ sizeLine
    rw [List.size_toArray, List.length_reverse, Array.length_toList]; exact hsz
  obtain ⟨os, hos, hcs, hds⟩ := id hs
  have ty : s.TypeIs (.ref sl) "slice" := ⟨os, hos, hcs⟩
  unfold getItem
  try with_reducible refine wpAny_holding ?_
  first | refine wpAny_bind (wpAny_pure ?_) | skip
  refine wpAny_bind (wpAny_sequenceKey ht.typeIs (by decide) (wpAny_bind (wpAny_callSpecial?_slot (name := Str.ofString "__getitem__") ht.typeIs PyProof.Rows.slot_tuple_getitem (wpAny_call_entry PyProof.Rows.slot_tuple_getitem ht.typeIs entry_tuple_getitem ?_ (args_tuple_getitem _ _)))))
  show wpAny _ _ (Builtin.Tuple.tupleItemsOf (.ref t) >>= _) _ _ s
  refine wpAny_bind (tupleItemsOf_ ht (wpAny_bind (wpAny_typeOf ty ?_)))
  rw [if_pos (by decide)]
  refine wpAny_bind (applied_rev hs ?_)
  have no : ¬ ((((items.size : Int) - 1) == 0 && (-1 : Int) == 1 && items.size == items.size) = true) := by simp
  show wpAny _ _ (if (((items.size : Int) - 1) == 0 && (-1 : Int) == 1 && items.size == items.size) = true then _ else _) _ _ s
  rw [if_neg no, pick_rev]
  first
    | exact wpAny_bind (m := Builtin.Tuple.tupleExact _) (wpAny_newObj_type (wpAny_pure ⟨_, rfl, wpAny_pure h⟩) fit)
    | exact wpAny_bind (m := Builtin.Tuple.tupleExact _) (wpAny_newObj_type (wpAny_bind (wpAny_pure (wpAny_pure ⟨_, rfl, wpAny_pure h⟩))) fit)
    | exact wpAny_bind (wpAny_bind (m := Builtin.Tuple.tupleExact _) (wpAny_newObj_type (wpAny_pure (wpAny_pure ⟨_, rfl, wpAny_pure h⟩)) fit))
    | exact wpAny_bind (wpAny_bind (m := Builtin.Tuple.tupleExact _) (wpAny_newObj_type (wpAny_pure ⟨_, rfl, wpAny_pure h⟩) fit))
end
def tRevT (K : PySem.W.Frag) (te : TE) : TE := fun σ H Q => te σ H fun x H1 => ∃ a xs, x = .ref a ∧ SqT K H1 a xs ∧ ∀ p, H1 p = none → Q (.ref p) (upd H1 p (.tup xs.reverse))
section
variable {X : Cx} {K : PySem.W.Frag}
theorem k_revT (hK : X.K = K) {e : Expr} {te : TE} {k : Nat} {p1 p2 p3 pos : Pos} (he : PE X e te) : PE X (.Subscript e (.Slice none none (some (.UnaryOp .USub (.Constant (.int 1) k p1) p2)) p3) pos) (tRevT K te) := by
  subst hK
  refine ⟨fun pins s σ H Q I h => Subscript_ (thn (he.run pins s σ H _ I h) fun v s1 ⟨x, H1, I1, r1, a, xs, ex, hx, q⟩ => ?_)⟩
  subst ex
  cases r1
  have st : PO X (some (.UnaryOp .USub (.Constant (.int 1) k p1) p2)) (tPart (tUn (rU fun i => .int (-i)) (tC (.int 1)))) := po_some (pe_un un_neg pe_int)
  refine wpAny_Slice (thn (po_none.run pins s1 σ H1 (fun o H2 => o = none ∧ H2 = H1) I1 ⟨rfl, rfl⟩) fun vl s2 ⟨l, H2, I2, pl, el, e2⟩ => ?_)
  subst el e2
  refine thn (po_none.run pins s2 σ H2 (fun o H3 => o = none ∧ H3 = H2) I2 ⟨rfl, rfl⟩) fun vu s3 ⟨u, H3, I3, pu, eu, e3⟩ => ?_
  subst eu e3
  refine thn (st.run pins s3 σ H3 (fun o H4 => o = some (-1) ∧ H4 = H3) I3 ⟨1, rfl, -1, rfl, rfl, rfl⟩) fun vs s4 ⟨o, H4, I4, ps, eo, e4⟩ => ?_
  subst eo e4
  cases pl
  cases pu
  cases ps with
  | int _ tk =>
    have I5 : Inv X pins σ H4 { s4 with heap := s4.heap.push { cls := .type "slice", data := .fields #[.none, .none, .int (-1) tk] } } := I4.kept (t' := s4.toks) fun b ob q => Heap.get?_push_of_some _ q
    obtain ⟨its, r, ht, hz⟩ := I5.tuple hx
    have ll := r.length
    show wpAny (model X.prog X.w) X.A (subscriptTail e (.Slice none none (some (.UnaryOp .USub (.Constant (.int 1) k p1) p2)) p3) (.ref a) (.ref s4.heap.objs.size)) (EP X pins σ Q) X.xe _
    refine tail_any (ops := [.ref a, .ref s4.heap.objs.size]) ht.typeIs (PyProof.Rows.slot_tuple_getitem.lookup) ?_ (by with_unfolding_all rfl)
    refine item_rev ht (Heap.IsSliceOf.new _ _ _ _) ?_ (by rw [List.size_toArray]; omega)
    refine ⟨.ref _, _, I5.laid (t' := s4.toks) (o := .tup xs.reverse) (fun b ob q => Heap.get?_push_of_some _ q) (Nat.le_refl _) ?_, rfl, q _ (I5.hok.fresh (Nat.le_refl _))⟩
    exact ⟨by rw [List.length_reverse]; exact hz, _, r.reverse, _, Heap.get?_push_size _ rfl, rfl, _, rfl⟩
/-! ## t * k of the empty tuple -/
theorem tuple_mul0 (l : Addr) (n : Nat) (dd : Option Addr) (sl : Array (Option Value)) (x : Int) (u : Tok) (c0 : (decide (x < -(2 ^ 63)) || decide (x ≥ 2 ^ 63)) = false) :
    Meets (Builtin.«tuple.__mul__» ⟨[.ref l, .int x u], []⟩) (fun _ R s => s.heap.get? l = some { cls := .type "tuple", dict := dd, data := .seq #[] n, slots := sl } ∧ R (.ok (.ret (.ref l))) s) :=
  .of_wp fun prog w A R s h => by
    obtain ⟨hp, g, d, tk, os⟩ := s
    obtain ⟨hl, h⟩ := h
    have f1 := AutoSeq1.idx_int
    wp_walk using wpAny_loadPart' hl
    repeat (first
      | (refine wpAny_ite_false (decide_eq_false (by rw [c0]; exact Bool.false_ne_true)) ?_; wp_walk using wpAny_loadPart' hl))
    exact ⟨_, rfl, h⟩
def rRepA (K : PySem.W.Frag) : R2 := fun x y H Q => ∃ l k xs, x = .ref l ∧ y = .int k ∧ SqT K H l xs ∧ 2 ≤ k ∧ k ≤ 1000 ∧ xs.length ≤ 1000 ∧ (xs = [] → Q (.ref l) H) ∧ (xs ≠ [] → ∀ p, H p = none → Q (.ref p) (upd H p (.tup (List.replicate k.toNat xs).flatten)))
theorem k_repT (hK : X.K = K) : OpR X (binaryOp .Mult) (rRepA K) := by
  subst hK
  intro pins s σ H x y v u Q I rx ry h
  obtain ⟨l, k, xs, rfl, rfl, hT, h1, h2, hz, q0, q1⟩ := h
  by_cases hx : xs = []
  · subst hx
    cases rx
    obtain ⟨t, rfl⟩ := ry
    obtain ⟨its, r, ⟨⟨cls, dd, data, sl⟩, ho, hc, n, hd⟩, hs⟩ := I.tuple hT
    cases r
    simp only at hc hd
    subst hc hd
    have c0 : (decide (k < -(2 ^ 63)) || decide (k ≥ 2 ^ 63)) = false := by rw [decide_eq_false (by omega), decide_eq_false (by omega)] <;> rfl
    refine wpAny_binaryOp_repeat_ref (T := "tuple") (U := "int") (by decide) ⟨_, ho, rfl⟩ (fun s' => typeIs_int s' k t) noFill_tuple_mul F.fills_int_mul F.slot_int_rmul repeat_tuple F.slot_int_index.lookup (call_meets F.slot_int_rmul (typeIs_int s k t) F.entry_int_rmul (F.args_int_rmul_2 _ _) (int_rmul_tuple k t l #[] n dd sl)
      ⟨ho, rfl, ⟨_, ho, rfl⟩, call_meets F.slot_tuple_mul ⟨_, ho, rfl⟩ F.entry_tuple_mul (F.args_tuple_mul_2 _ _) (tuple_mul0 l n dd sl k t c0) ⟨ho, ⟨.ref l, H, I, rfl, q0 rfl⟩⟩⟩)
  · exact op_repT pins s σ H _ _ v u Q I rx ry ⟨l, k, xs, rfl, rfl, hT, hx, h1, h2, hz, q1 hx⟩
end

/-! ## the same over data -/
theorem RpL.rev {K : PySem.W.Frag} {H : Hp} : ∀ {v : List V} {d : List D}, RpL K H v d → RpL K H v.reverse d.reverse
  | _, _, .nil => .nil
  | _, _, .cons a b => by rw [List.reverse_cons, List.reverse_cons]; exact (RpL.rev b).app (.cons a .nil)
theorem RpL.rep {K : PySem.W.Frag} {H : Hp} {v : List V} {d : List D} (h : RpL K H v d) : ∀ k : Nat, RpL K H (List.replicate k v).flatten (List.replicate k d).flatten
  | 0 => .nil
  | k + 1 => by
    rw [List.replicate_succ, List.flatten_cons, List.replicate_succ, List.flatten_cons]
    exact h.app (RpL.rep h k)
section
variable {W : Wo} {n : Nat} {env : List E} {Φ : D → Nat → Prop} {te : TE} {i : Nat} {x : D}
theorem wp_revT (q : Wp W te n env fun x n1 => ∃ xs, x = .tup xs ∧ Φ (.tup xs.reverse) n1) : Wp W (tRevT W.K te) n env Φ := fun σ stk vs H Q w k =>
  q σ stk vs H _ w fun v d n1 H1 q1 w1 => by
    obtain ⟨xs, rfl, q1⟩ := q1
    obtain ⟨U, s, h, f, g⟩ := w1.view1
    cases h with
    | tup a b =>
      refine ⟨_, _, rfl, same_sqT s a, fun p hp => ?_⟩
      obtain ⟨U', s', e, g⟩ := g p (.tup _) hp
      exact k _ _ n1 _ q1 (g _ _ (.tup (.inl (.inl e)) (b.rev.mono s')))
theorem op_repD {xs : List D} {k : Int} (h1 : 2 ≤ k) (h2 : k ≤ 1000) (hz : xs.length ≤ 1000) (q : Φ (.tup (List.replicate k.toNat xs).flatten) n) : Op2 W (rRepA W.K) n (.tup xs) (.int k) Φ := fun env σ stk vs vx vy H Q w kk => by
  obtain ⟨U, s, h2', h1', f, g⟩ := w.view2
  cases h1'
  cases h2' with
  | tup a b =>
    refine ⟨_, k, _, rfl, rfl, same_sqT s a, h1, h2, by rw [b.len]; exact hz, fun e => ?_, fun _ p hp => ?_⟩
    · subst e
      cases b
      have e2 : (List.replicate k.toNat ([] : List D)).flatten = [] := by simp
      rw [e2] at q
      exact kk _ _ n H q (f _ _ (.tup a .nil))
    · obtain ⟨U', s', e, g⟩ := g p (.tup _) hp
      exact kk _ _ n _ q (g _ _ (.tup (.inl (.inl e)) ((b.rep k.toNat).mono s')))
theorem wp_dnew (q : Φ (.dct []) n) : Wp W tDNewK n env Φ := fun σ stk vs H Q w k p hp =>
  k _ _ n _ q (Wd.new (ds := []) (us := []) w rfl hp fun U hu _ => .dct hu .nil)
theorem wp_disp1 {z : Str} {v : V} (hv : ∀ K U, Rp K U v x) (q : Φ (.dct [(.inr z, x)]) n) : Wp W (tDisp [(tC (.str z), tC v)]) n env Φ := fun σ stk vs H Q w k p hp => by
  refine ⟨upd_same, [(.inr z, v)], rfl, (by show 1 ≤ 15; decide), ?_⟩
  rw [upd_upd]
  exact k _ _ n _ q (Wd.new (ds := []) (us := []) w rfl hp fun U hu _ => .dct hu (.cons (hv _ U) .nil))
theorem wp_disp1v {z : Str} (hi : env[i]? = some (.d x)) (q : Φ (.dct [(.inr z, x)]) n) : Wp W (tDisp [(tC (.str z), tVar i)]) n env Φ := fun σ stk vs H Q w k p hp => by
  obtain ⟨kk, hh, pp, M1, M2, a, nd, b, c⟩ := w
  obtain ⟨v, e, r⟩ := b.getD hi
  refine ⟨v, e, upd_same, [(.inr z, v)], rfl, (by show 1 ≤ 15; decide), ?_⟩
  rw [upd_upd]
  have w : Wd W n env σ (.d x :: stk) (some v :: vs) H := ⟨kk, hh, pp, M1, M2, a, nd, b, ⟨_, rfl, r⟩, c⟩
  exact k _ _ n _ q (Wd.new (ds := [x]) (us := [v]) w rfl hp fun U hu rl => by
    cases rl with
    | cons r _ => exact .dct hu (.cons r .nil))
end
end FR
namespace FR
open PySem PySem.Spec PyProof.Rows L2

/-! ## how long the text of a datum can be -/
def strFine (z : Str) : Bool := z.cps.toList.all fun c => decide (c < 0x110000)
def keyFine : Key → Bool
  | .inl i => decide (i.natAbs < 10 ^ 20)
  | .inr z => strFine z
def keyWt : Key → Nat
  | .inl _ => 40
  | .inr z => 10 * z.length + 2
mutual
def fineD : D → Bool
  | .ty _ => false
  | .lsq _ => false
  | .int i => decide (i.natAbs < 10 ^ 20)
  | .str z => strFine z
  | .lst xs => fineL xs
  | .tup xs => fineL xs
  | .dct kvs => fineK kvs
  | _ => true
def fineL : List D → Bool
  | [] => true
  | x :: xs => fineD x && fineL xs
def fineK : List (Key × D) → Bool
  | [] => true
  | (k, x) :: xs => keyFine k && fineD x && fineK xs
end
mutual
def wt : D → Nat
  | .str z => 10 * z.length + 2
  | .lst xs => wtL xs + 4
  | .tup xs => wtL xs + 4
  | .dct kvs => wtK kvs + 4
  | _ => 40
def wtL : List D → Nat
  | [] => 0
  | x :: xs => wt x + 2 + wtL xs
def wtK : List (Key × D) → Nat
  | [] => 0
  | (k, x) :: xs => keyWt k + 2 + wt x + 2 + wtK xs
end
mutual
def dp : D → Nat
  | .lst xs => dpL xs + 1
  | .tup xs => dpL xs + 1
  | .dct kvs => dpK kvs + 1
  | .lsq xs => dpL xs + 1
  | _ => 0
def dpL : List D → Nat
  | [] => 0
  | x :: xs => max (dp x) (dpL xs)
def dpK : List (Key × D) → Nat
  | [] => 0
  | (_, x) :: xs => max (dp x) (dpK xs)
end
theorem key_depth (k : Key) : (keyP k).depth = 0 := by cases k <;> rfl
mutual
theorem dp_py : ∀ d : D, (py d).depth = dp d
  | .non => rfl
  | .bl _ => rfl
  | .int _ => rfl
  | .str _ => rfl
  | .ty _ => rfl
  | .lst xs => by rw [py, PyData.depth, dp, dpL_py xs]
  | .tup xs => by rw [py, PyData.depth, dp, dpL_py xs]
  | .lsq xs => by rw [py, PyData.depth, dp, dpL_py xs]
  | .dct xs => by rw [py, PyData.depth, dp, dpK_py xs]
theorem dpL_py : ∀ d : List D, PyData.depthAll (pyL d) = dpL d
  | [] => rfl
  | x :: xs => by rw [pyL, PyData.depthAll, dpL, dp_py x, dpL_py xs]
theorem dpK_py : ∀ d : List (Key × D), PyData.depthKv (pyK d) = dpK d
  | [] => rfl
  | (k, x) :: xs => by rw [pyK, PyData.depthKv, dpK, dp_py x, dpK_py xs, key_depth]; simp
end
theorem str_len {z : Str} (h : strFine z = true) : (reprText z).length ≤ 10 * z.length + 2 := PySem.StrLaws.reprText_len z fun c hc => by
  have := of_decide_eq_true (List.all_eq_true.mp h c hc)
  have e : (16 : Nat) ^ 8 = 4294967296 := by decide
  omega
theorem int_len {i : Int} (h : i.natAbs < 10 ^ 20) : (Str.ofString (toString i)).length ≤ 40 := by
  have e := int_text_length_le10 (k := 20) (by decide) h
  rw [PySem.ofString_length]; omega
theorem join_le (ts : List Str) : (Str.join ", " ts).length ≤ piled ts := by
  by_cases h : ts = []
  · subst h; exact Nat.le_refl _
  · have := join_length_add ts h; omega
theorem tupleText_le (ts : List Str) : (tupleText ts).length ≤ piled ts + 4 := by
  unfold tupleText
  rw [strLen_append, strLen_append]
  have e1 : ((("(" : String) : Str)).length = 1 := rfl
  have e3 : (((if ts.length == 1 then ",)" else ")" : String) : Str)).length ≤ 2 := by split <;> decide
  have := join_le ts
  omega
theorem dictText_le (ts : List Str) : (dictText ts).length ≤ piled ts + 4 := by
  unfold dictText
  rw [strLen_append, strLen_append]
  have e1 : ((("{" : String) : Str)).length = 1 := rfl
  have e3 : ((("}" : String) : Str)).length = 1 := rfl
  have := join_le ts
  omega
theorem listText_le (ts : List Str) : (listText ts).length ≤ piled ts + 4 := by
  unfold listText
  rw [strLen_append]
  have e3 : ((("]" : String) : Str)).length = 1 := rfl
  cases ts with
  | nil => show ((("[" : String) : Str)).length + _ ≤ _; rw [e3]; decide
  | cons t r =>
    have h := textFrom_length_pos r 1 (("[" : Str) ++ (if 0 > 0 then ", " else "" : String) ++ t) (by decide)
    have e : (textFrom 0 "[" (t :: r)).length = (textFrom 1 (("[" : Str) ++ (if 0 > 0 then ", " else "" : String) ++ t) r).length := rfl
    rw [e, h, strLen_append, strLen_append, piled_cons, e3]
    have e1 : ((("[" : String) : Str)).length = 1 := rfl
    have e2 : (((if 0 > 0 then ", " else "" : String) : Str)).length = 0 := rfl
    omega
theorem key_show {k : Key} (h : keyFine k = true) : (keyP k).shown.length ≤ keyWt k ∧ (keyP k).showable = true := by
  cases k with
  | inl i =>
    have h' := of_decide_eq_true h
    refine ⟨int_len h', ?_⟩
    show decide (i.natAbs.log2 < 1920) = true
    rw [decide_eq_true_eq]
    by_cases h0 : i.natAbs = 0
    · rw [h0]; decide
    · exact (Nat.log2_lt h0).mpr (Nat.lt_trans h' (by decide +kernel))
  | inr z => exact ⟨str_len h, rfl⟩
mutual
theorem show_le : ∀ {d : D}, fineD d = true → (py d).shown.length ≤ wt d ∧ (py d).showable = true ∧ noTy d = true
  | .non, _ => ⟨by decide, rfl, rfl⟩
  | .bl b, _ => ⟨by cases b <;> decide, rfl, rfl⟩
  | .int i, h => ⟨(key_show (k := .inl i) h).1, (key_show (k := .inl i) h).2, rfl⟩
  | .str z, h => ⟨str_len h, rfl, rfl⟩
  | .ty _, h => by cases h
  | .lsq _, h => by rw [fineD] at h; cases h
  | .lst xs, h => by
    rw [fineD] at h
    obtain ⟨h1, h2, h3⟩ := show_leL h
    rw [py, PyData.shown, PyData.showable, wt, noTy]
    exact ⟨Nat.le_trans (listText_le _) (by omega), h2, h3⟩
  | .tup xs, h => by
    rw [fineD] at h
    obtain ⟨h1, h2, h3⟩ := show_leL h
    rw [py, PyData.shown, PyData.showable, wt, noTy]
    exact ⟨Nat.le_trans (tupleText_le _) (by omega), h2, h3⟩
  | .dct xs, h => by
    rw [fineD] at h
    obtain ⟨h1, h2, h3⟩ := show_leK h
    rw [py, PyData.shown, PyData.showable, wt, noTy]
    exact ⟨Nat.le_trans (dictText_le _) (by omega), h2, h3⟩
theorem show_leL : ∀ {d : List D}, fineL d = true → piled (PyData.shownAll (pyL d)) ≤ wtL d ∧ PyData.showableAll (pyL d) = true ∧ noTyL d = true
  | [], _ => ⟨Nat.le_refl _, rfl, rfl⟩
  | x :: xs, h => by
    rw [fineL, Bool.and_eq_true] at h
    obtain ⟨a1, a2, a3⟩ := show_le h.1
    obtain ⟨b1, b2, b3⟩ := show_leL h.2
    rw [pyL, PyData.shownAll, piled_cons, PyData.showableAll, wtL, noTyL, a2, a3, b2, b3]
    exact ⟨by omega, rfl, rfl⟩
theorem show_leK : ∀ {d : List (Key × D)}, fineK d = true → piled (PyData.shownKv (pyK d)) ≤ wtK d ∧ PyData.showableKv (pyK d) = true ∧ noTyK d = true
  | [], _ => ⟨Nat.le_refl _, rfl, rfl⟩
  | (k, x) :: xs, h => by
    rw [fineK, Bool.and_eq_true, Bool.and_eq_true] at h
    obtain ⟨k1, k2⟩ := key_show h.1.1
    obtain ⟨a1, a2, a3⟩ := show_le h.1.2
    obtain ⟨b1, b2, b3⟩ := show_leK h.2
    rw [pyK, PyData.shownKv, piled_cons, PyData.showableKv, wtK, noTyK, a2, a3, b2, b3, k2, strLen_append, strLen_append]
    have e : ((((": " : String)) : Str)).length = 2 := rfl
    exact ⟨by omega, rfl, rfl⟩
end
theorem canShow_of {d : D} (h : fineD d = true) (h1 : dp d ≤ 100) (h2 : wt d ≤ 16000000) : canShow d = true := by
  obtain ⟨a, b, c⟩ := show_le h
  unfold canShow
  rw [b, c, dp_py, Bool.true_and, Bool.true_and, Bool.and_eq_true, decide_eq_true_eq, decide_eq_true_eq, sizeLine_eq]
  exact ⟨h1, by omega⟩

/-! ## t == () -/
section
variable {X : Cx} {K : PySem.W.Frag}
theorem k_eqE (hK : X.K = K) (hu : X.A.units + 64 < cLine) : OpR X (compareOp .Eq) (fun x y H Q => ∃ a b xs, x = .ref a ∧ y = .ref b ∧ SqT K H a xs ∧ SqT K H b [] ∧ Q (.bl xs.isEmpty) H) := by
  subst hK
  intro pins s σ H x y v u Q I rx ry h
  obtain ⟨a, b, xs, rfl, rfl, h1, h2, q⟩ := h
  cases rx
  cases ry
  obtain ⟨its, r1, p1, _⟩ := I.tuple h1
  obtain ⟨its2, r2, p2, _⟩ := I.tuple h2
  cases r2
  obtain ⟨o1, a1, a2, n1, a3⟩ := p1
  obtain ⟨o2, b1, b2, n2, b3⟩ := p2
  refine SeqAt.eq_tupleAt (e := fun _ => true) ⟨o1, a1, a2, n1, a3⟩ ⟨o2, b1, b2, n2, b3⟩ (by omega) (fun j h1 h2 => absurd h2 (Nat.not_lt_zero _)) ⟨.bl _, H, I, rfl, ?_⟩
  have e : ((List.range (min its.toArray.size ([] : List Value).toArray.size)).all (fun _ => true) && its.toArray.size == ([] : List Value).toArray.size) = xs.isEmpty := by
    have := r1.length
    cases xs with
    | nil => cases its with
      | nil => rfl
      | cons _ _ => simp at this
    | cons _ _ => cases its with
      | nil => simp at this
      | cons _ _ => rfl
  rw [e]
  exact q
end
section
variable {W : Wo} {n : Nat} {env stk : List E} {σ : L2.St} {vs : L2.St} {H : Hp} {Φ : D → Nat → Prop} {O : Out} {te tx : TE} {i j : Nat} {xs : List D} {y : D} {vy : V}
theorem op_eqE (q : Φ (.bl xs.isEmpty) n) : Op2 W (fun x y H Q => ∃ a b xs, x = .ref a ∧ y = .ref b ∧ SqT W.K H a xs ∧ SqT W.K H b [] ∧ Q (.bl xs.isEmpty) H) n (.tup xs) (.tup []) Φ :=
  op2_pure (v := .bl xs.isEmpty) (fun vx vy H Q h1 h2 k => by
    cases h1 with
    | tup a b =>
      cases h2 with
      | tup c d =>
        cases d
        refine ⟨_, _, _, rfl, rfl, a, c, ?_⟩
        cases b with
        | nil => exact k
        | cons _ _ => exact k) (fun _ _ => .bl _) q
end
end FR
namespace FR
open PySem L2
section
variable {W : Wo} {n m : Nat} {env stk : List E} {σ : St} {vs : St} {H H' : Hp} {d x y : D} {v vx vy : V} {i j : Nat} {Φ : D → Nat → Prop} {O : Out} {te tx : TE} {ta : TA} {xs : List D}
theorem Wd.ownPut (w : Wd W n env σ (.d y :: stk) (some vy :: vs) H) (hi : env[i]? = some (.own xs)) {p : Addr} {ws ws' : List V} {ys : List D} (hp : σ[i]? = some (some (.ref p))) (hH : H p = some (.lst ws)) (ff : ∀ U : Hp, RpL W.K U ws xs → Rp W.K U vy y → RpL W.K U ws' ys) :
    Wd W n (env.set i (.own ys)) σ stk vs (upd H p (.lst ws')) := by
  obtain ⟨k1, h1, pp, M1, M2, a, nd, b, c⟩ := w
  obtain ⟨⟨u, e, ry⟩, c⟩ := c
  cases e
  obtain ⟨p', Ma, Mb, wz, e1, e2, e3, e4, f, g⟩ := b.owned hi
  rw [hp] at e2; cases e2
  rw [hH] at e3; cases e3
  subst e1
  have p0 := (a p (by simp)).1
  have hU : era (upd H p (.lst ws')) (W.M0 ++ ((Ma ++ p :: Mb) ++ M2)) = era H (W.M0 ++ ((Ma ++ p :: Mb) ++ M2)) := by
    funext b
    unfold era
    split
    · rfl
    · rename_i z
      rw [upd_ne]
      rintro rfl
      exact z (by simp)
  have nq : ∀ q ∈ Ma ++ Mb, q ≠ p := fun q hq z => by
    subst z
    have nd1 := (List.nodup_append.mp nd).1
    exact (List.nodup_cons.mp (List.perm_middle.nodup_iff.mp nd1)).1 hq
  have nq2 : ∀ q ∈ M2, q ≠ p := fun q hq z => by
    subst z
    exact (List.nodup_append.mp nd).2.2 q (by simp) q hq rfl
  refine ⟨fun b o n q => ?_, h1, fun q hq => ?_, Ma ++ p :: Mb, M2, fun q hq => ⟨(a q hq).1, ?_⟩, nd, ?_, ?_⟩
  · rw [upd_ne (by rintro rfl; rw [p0] at q; cases q)]; exact k1 b o n q
  · obtain ⟨z1, z2⟩ := pp q hq
    refine ⟨z1, ?_⟩
    obtain ⟨a1, b1, c1, z3, z4⟩ := z2
    refine ⟨a1, b1, c1, ?_, z4⟩
    rw [upd_ne (by rintro rfl; exact h1 _ z1 p0)]; exact z3
  · by_cases z : q = p
    · subst z; rw [upd_same]; exact fun z => by cases z
    · rw [upd_ne z]; exact (a q hq).2
  · rw [hU]
    exact f _ _ _ _ (Same.refl _) (fun q hq o e => by rw [upd_ne (nq q hq)]; exact e) upd_same (ff _ e4 ry)
  · rw [hU]
    exact EnvOk.mono2 (Same.refl _) (fun q hq o e => by rw [upd_ne (nq2 q hq)]; exact e) c
theorem RpL.put {K : PySem.W.Frag} {U : Hp} : ∀ {v : List V} {d : List D} (i : Nat) {u : V} {y : D}, RpL K U v d → Rp K U u y → RpL K U (v.set i u) (d.set i y)
  | _, _, _, _, _, .nil, _ => .nil
  | _, _, 0, _, _, .cons _ b, h => .cons h b
  | _, _, i + 1, _, _, .cons a b, h => .cons a (RpL.put i b h)
theorem wp_ixOwn (hi : env[i]? = some (.own xs)) (q : Wp W tx n env fun z n' => ∃ k, z = .int k ∧ ∃ d, atI xs k = some d ∧ Φ d n') : Wp W (tOp (rIxL W.K) (tVar i) tx) n env Φ := fun σ stk vs H Q w k => by
  obtain ⟨p, ws, e1, e2, e3⟩ := w.ownAt hi
  refine ⟨.ref p, e1, q σ stk vs H _ w fun vz z n' H' q' w' => ?_⟩
  obtain ⟨kk, rfl, d, ed, qd⟩ := q'
  have hz := w'.top
  cases hz
  have w2 := w'.pop
  have w3 := w2
  obtain ⟨k1, h1, pp, M1, M2, a, nd, b, c⟩ := w2
  obtain ⟨p', Ma, Mb, ws', f1, f2, f3, f4, _⟩ := b.owned hi
  rw [e1] at f2
  cases f2
  unfold atI at ed
  obtain ⟨jj, g1, g2⟩ := Option.bind_eq_some_iff.mp ed
  obtain ⟨u, g3, r⟩ := f4.get g2
  exact ⟨p, ws', kk, u, rfl, rfl, .inl (.inl f3), by unfold atI; rw [f4.len, g1]; exact g3, k u d n' H' qd ⟨k1, h1, pp, M1, M2, a, nd, b, ⟨u, rfl, r⟩, c⟩⟩
theorem ws_setOwn (hi : env[i]? = some (.own xs)) (q : Wp W te n env fun y n1 => Wp W tx n1 env fun z n2 => ∃ k j, z = .int k ∧ ixN xs.length k = some j ∧ O.nx (env.set i (.own (xs.set j y))) n2) :
    WpS W (tAsg te (gSub (tVar i) tx rSetL)) n env O := fun σ stk vs H De w f =>
  q σ stk vs H _ w fun vy y n1 H1 q1 w1 => by
    obtain ⟨p, ws, e1, e2, e3⟩ := w1.pop.ownAt hi
    refine ⟨.ref p, e1, q1 σ _ _ H1 _ w1 fun vz z n2 H2 q2 w2 => ?_⟩
    obtain ⟨k, j, rfl, hj, qn⟩ := q2
    have hz := w2.top
    cases hz
    obtain ⟨p', ws', f1, f2, f3⟩ := w2.pop.pop.ownAt hi
    rw [e1] at f1
    cases f1
    exact ⟨p, ws', k, j, rfl, rfl, f2, by rw [f3]; exact hj, f.nx _ _ _ n2 qn (w2.pop.ownPut hi e1 f2 fun U r1 r2 => r1.put j r2)⟩
theorem Wd.listOwn (w : Wd W n env σ (.d (.tup xs) :: stk) (some v :: vs) H) : ∃ a zs, v = .ref a ∧ SqT W.K H a zs ∧ ∀ p, H p = Option.none → Wd W n env σ (.own xs :: stk) (some (.ref p) :: vs) (upd H p (.lst zs)) := by
  have w2 := w
  obtain ⟨k, h, pp, M1, M2, a, nd, b, c⟩ := w
  obtain ⟨⟨u, eu, ru⟩, c⟩ := c
  cases eu
  cases ru with
  | @tup aa zs _ h1 h2 =>
    refine ⟨aa, zs, rfl, same_sqT (era_sub _ _) h1, fun p hp => ?_⟩
    have w3 := w2.mono (same_new (o := .lst zs) hp)
    have e : Same H (upd H p (.lst zs)) := same_new hp
    have np : p ∉ M1 ++ M2 := fun z => (a p z).2 hp
    have np0 : W.H0 p = Option.none := by
      cases q : W.H0 p with
      | none => rfl
      | some o =>
        by_cases z : W.P = some p
        · exact absurd hp ((pp p z).2.there)
        · rw [k p o z q] at hp; cases hp
    have e2 : Same (era H (W.M0 ++ (M1 ++ M2))) (era (upd H p (.lst zs)) (W.M0 ++ (M1 ++ p :: M2))) := fun b o hb => by
      obtain ⟨h1, h2⟩ := era_some hb
      refine era_of (e _ _ h1) fun z => h2 ?_
      have nb : b ≠ p := ne_of_none h1 hp
      simp only [List.mem_append, List.mem_cons] at z ⊢
      rcases z with z | z | z | z
      · exact .inl z
      · exact .inr (.inl z)
      · exact absurd z nb
      · exact .inr (.inr z)
    refine ⟨w3.keep, h, w3.pot, M1, p :: M2, fun q hq => ?_, ?_, b.mono e2 e, ⟨zs, rfl, upd_same, h2.mono e2⟩, c.mono e2 e⟩
    · by_cases z : q = p
      · subst z; exact ⟨np0, by rw [upd_same]; exact fun z => by cases z⟩
      · rw [upd_ne z]
        refine a q ?_
        simp only [List.mem_append, List.mem_cons] at hq ⊢
        rcases hq with hq | hq | hq
        · exact .inl hq
        · exact absurd hq z
        · exact .inr hq
    · refine (List.perm_middle.nodup_iff).mpr ?_
      exact List.nodup_cons.mpr ⟨np, nd⟩
/-- a, b = e, list(t): the new list is owned -/
theorem ws_parOwn {tl : TA} (hij : i ≠ j) (hj : j < env.length) (hn : ∀ zs, env[j]? ≠ some (.own zs)) (q : Wp W te n env fun y n1 => WpA W tl n1 env fun ds n2 => ∃ xs, ds = [.tup xs] ∧ O.nx ((env.set i (.d y)).set j (.own xs)) n2) :
    WpS W (tPar i j (tCons te (tCons (tCB (fun xs H Q => ∃ p ys, xs = [.ref p] ∧ (SqL W.K H p ys ∨ SqT W.K H p ys) ∧ ∀ l, H l = Option.none → Q (.ref l) (upd H l (.lst ys))) tl) tNil))) n env O := fun σ stk vs H De w f =>
  q σ stk vs H _ w fun vy y n1 H1 q1 w1 => q1 σ _ _ H1 _ w1 fun us ds n2 H2 q2 l w2 => by
    obtain ⟨xs, rfl, qn⟩ := q2
    match us, l with
    | [u], _ =>
      have w3 : Wd W n2 env σ (.d (.tup xs) :: .d y :: stk) (some u :: some vy :: vs) H2 := w2
      obtain ⟨a, zs, rfl, h1, g⟩ := w3.listOwn
      refine ⟨a, zs, rfl, .inr h1, fun p hp => ⟨vy, .ref p, rfl, ?_⟩⟩
      have w4 := ((g p hp).ownSet j hj hn).set i
      rw [List.set_comm _ _ (Ne.symm hij), List.set_comm _ _ (Ne.symm hij)] at w4
      exact f.nx _ _ _ n2 qn w4
end
end FR
namespace FR
open PySem PySem.Spec PyProof.Rows L2
def top (i : Nat) : Stmt := PySem.Challenge.pw_fitruns_k09_counters_and_settings_of_any.main.body.getD i (.Pass ⟨0, 0, 0, 0⟩)

theorem sz {n : Nat} (h : Nat.ble n 16777216 = true) : n ≤ sizeLine := by
  rw [sizeLine_eq]
  exact Nat.le_of_ble_eq_true h
theorem wp_is {W : Wo} {n : Nat} {env : List E} {te : TE} {Φ : D → Nat → Prop} (e : D) (h : Wp W te n env fun d m => m = n ∧ d = e) (q : Φ e n) : Wp W te n env Φ := h.mono fun d m ⟨h1, h2⟩ => by rw [h1, h2]; exact q
theorem wpT_is {W : Wo} {n : Nat} {env : List E} {tt : TT} {Φ : Bool → Nat → Prop} (e : Bool) (h : WpT W tt n env fun d m => m = n ∧ d = e) (q : Φ e n) : WpT W tt n env Φ := fun σ stk vs H Q w k => h σ stk vs H Q w fun b m H' ⟨h1, h2⟩ w' => k b m H' (by rw [h1, h2]; exact q) w'
theorem ws_set {W : Wo} {n : Nat} {env : List E} {te : TE} {i : Nat} {O : Out} (q : Wp W te n env fun d n' => O.nx (env.set i (.d d)) n') : WpS W (tAsg te (gName i)) n env O := ws_asg (L := [i]) (q.mono fun d m h => wg_name h)
theorem if_b {A B : Prop} {b : Bool} (h1 : b = true → A) (h2 : b = false → B) : if b = true then A else B := by
  cases b with
  | true => exact h1 rfl
  | false => exact h2 rfl
local macro_rules | `(tactic| walk_at "w") => `(tactic| first
  | with_reducible refine ws_seq ?_ | with_reducible refine ws_next ?_ | with_reducible refine ws_ret ?_ | with_reducible refine ws_retN ?_ | with_reducible refine ws_if ?_ | with_reducible refine ws_drop ?_ | with_reducible refine ws_set ?_ | with_reducible refine wg_name ?_
  | refine wp_var rfl ?_ | with_reducible refine wp_ci ?_ | with_reducible refine wp_cs ?_ | with_reducible refine wp_cb ?_ | with_reducible refine wp_cn ?_ | with_reducible refine wp_ct ?_
  | with_reducible refine wpA_nil ?_ | with_reducible refine wpA_cons ?_ | with_reducible refine wp_tup ?_ | with_reducible refine wp_lst ?_ | with_reducible refine wp_op ?_ | with_reducible refine wp_un ?_ | with_reducible refine wp_cb2 ?_ | with_reducible refine wp_if ?_
  | with_reducible refine wp_andV ?_ | with_reducible refine wp_orV ?_ | with_reducible refine wp_notV ?_ | with_reducible refine wp_chain ?_
  | with_reducible refine wpT_B ?_ | with_reducible refine wpT_test ?_ | with_reducible refine wpT_and ?_ | with_reducible refine wpT_or ?_ | with_reducible refine wpT_not ?_ | with_reducible refine wpT_yes ?_
  | refine op2_i (fun _ _ => .bl _) ?_ | refine op2_i (fun _ _ => .int _) ?_
  | refine L2.iteT ?_ | refine L2.iteF ?_ | refine And.intro (sz rfl) ?_
  | refine ⟨_, rfl, ?_⟩)
local macro_rules | `(tactic| walk_at "ws") => `(tactic| repeat walk_at "w")

/-! ## forms -/
mutual
def okD : D → Bool
  | .ty _ => false
  | .lsq _ => false
  | .str z => decide (z.length ≤ sizeLine)
  | .lst xs => decide (xs.length ≤ sizeLine) && okL xs
  | .tup xs => decide (xs.length ≤ sizeLine) && okL xs
  | .dct kvs => okK kvs
  | _ => true
def okL : List D → Bool
  | [] => true
  | x :: xs => okD x && okL xs
def okK : List (Key × D) → Bool
  | [] => true
  | (_, x) :: xs => okD x && okK xs
end
theorem okL_all : ∀ xs : List D, okL xs = xs.all okD
  | [] => rfl
  | x :: xs => by rw [okL, List.all_cons, okL_all xs]
theorem ok_notTy {x : D} (h : okD x = true) : isTy x = false := by cases x <;> first | rfl | (rw [okD] at h; cases h)
theorem ok_tup {xs : List D} (h : okD (.tup xs) = true) : xs.length ≤ sizeLine ∧ ∀ x ∈ xs, okD x = true := by
  rw [okD, Bool.and_eq_true, decide_eq_true_eq, okL_all, List.all_eq_true] at h
  exact h
def letters : Str := Str.ofString "abcdefghijklmnopqrstuvwxyz"
def isInt : D → Bool
  | .int _ => true
  | _ => false
def isStr : D → Bool
  | .str _ => true
  | _ => false
def isTup : D → Bool
  | .tup _ => true
  | _ => false
theorem inst_int (x : D) : (instD x "int" && !instD x "bool") = isInt x := by cases x <;> rfl
theorem inst_str (x : D) : instD x "str" = isStr x := by cases x <;> rfl
theorem inst_tup (x : D) : instD x "tuple" = isTup x := by cases x <;> rfl
def isName : D → Bool
  | .str z => decide (1 ≤ z.length) && decide (z.length ≤ 8) && z.cps.toList.all fun c => decide (c ∈ letters.cps.toList)
  | _ => false
def ltS (a b : Str) : Bool := decide (a.cps.toList < b.cps.toList)
def ascS (ss : List Str) : Bool := (ss.zip (ss.drop 1)).all fun p => ltS p.1 p.2
def strOf : D → Str
  | .str z => z
  | _ => ⟨#[]⟩
def areKinds : D → Bool
  | .tup xs => xs.all isName && ascS (xs.map strOf)
  | _ => false
theorem name_str {x : D} (h : isName x = true) : x = .str (strOf x) := by cases x <;> first | rfl | cases h
theorem names_strs : ∀ {xs : List D}, xs.all isName = true → xs = (xs.map strOf).map D.str
  | [], _ => rfl
  | x :: xs, h => by
    rw [List.all_cons, Bool.and_eq_true] at h
    rw [List.map_cons, List.map_cons, ← name_str h.1, ← names_strs h.2]
theorem all_map {f : D → Bool} (xs : List D) : (xs.map fun x => D.bl (f x)) = (xs.map f).map D.bl := by rw [List.map_map]; rfl

theorem cut_tail (xs : List D) : cutD xs (some 1) none = xs.drop 1 := by
  unfold cutD
  rw [HT.sIx_none, show (1 : Int) = ((1 : Nat) : Int) from rfl, HT.sIx_nat]
  cases xs with
  | nil => rfl
  | cons a l => rw [show min 1 (a :: l).length = 1 by simp]; exact List.take_of_length_le (by simp)

/-! ## the words of the text that stand for themselves -/
structure Txt1 (mg : Str → Option Value) : Prop where
  n_isinstance : mg "isinstance" = none
  n_int : mg "int" = none
  n_bool : mg "bool" = none
  n_str : mg "str" = none
  n_tuple : mg "tuple" = none
  n_len : mg "len" = none
  n_all : mg "all" = none
  n_any : mg "any" = none
  n_zip : mg "zip" = none
  c_LETTERS : Gc mg "LETTERS" (.str letters)
  c_MOST_LETTERS : Gc mg "MOST_LETTERS" (.int 8)
  c_MOST_COUNTERS : Gc mg "MOST_COUNTERS" (.int 3)
  c_LEAST_SIZE : Gc mg "LEAST_SIZE" (.int 2)
  c_MOST_SIZE : Gc mg "MOST_SIZE" (.int 999)

abbrev s_is_integer : Stmt := top 6
abbrev N_is_integer : List Str := ["value"]
theorem sc_is_integer : FnScope N_is_integer ["value"] (defScope s_is_integer) := ⟨rfl, rfl, rfl, by decide +kernel, rfl, by decide +kernel, by decide +kernel⟩

abbrev s_is_name : Stmt := top 7
abbrev N_is_name : List Str := ["value", "letter"]
theorem sc_is_name : FnScope N_is_name ["value"] (defScope s_is_name) := ⟨rfl, rfl, rfl, by decide +kernel, rfl, by decide +kernel, by decide +kernel⟩

abbrev s_is_ascending : Stmt := top 8
abbrev N_is_ascending : List Str := ["some", "one", "other"]
theorem sc_is_ascending : FnScope N_is_ascending ["some"] (defScope s_is_ascending) := ⟨rfl, rfl, rfl, by decide +kernel, rfl, by decide +kernel, by decide +kernel⟩

abbrev s_are_kinds : Stmt := top 13
abbrev N_are_kinds : List Str := ["value", "kind"]
theorem sc_are_kinds : FnScope N_are_kinds ["value"] (defScope s_are_kinds) := ⟨rfl, rfl, rfl, by decide +kernel, rfl, by decide +kernel, by decide +kernel⟩


def C1 (p : D → Bool) (f : D → D) : List D → (D → Prop) → Prop := fun ds Φ => ∃ x, ds = [x] ∧ p x = true ∧ Φ (f x)
theorem C1.len {p : D → Bool} {f : D → D} {ds : List D} {Φ : D → Prop} (h : C1 p f ds Φ) : ds.length = 1 := by obtain ⟨x, rfl, _⟩ := h; rfl
def CAsc : List D → (D → Prop) → Prop := fun ds Φ => ∃ ss : List Str, ds = [.tup (ss.map D.str)] ∧ ss.length ≤ sizeLine ∧ Φ (.bl (ascS ss))
theorem CAsc.len {ds : List D} {Φ : D → Prop} (h : CAsc ds Φ) : ds.length = 1 := by obtain ⟨x, rfl, _⟩ := h; rfl

section
variable {P : Program} {w : World} {K : PySem.W.Frag} {mg : Str → Option Value} {base : Heap}
theorem ok_is_integer (T : Txt1 mg) (Dd : DefIn K mg "is_integer" s_is_integer ["value"]) : Has P w K mg base 1 "is_integer" ["value"] (spD K (C1 okD fun x => .bl (isInt x))) := by
  refine has_D Dd sc_is_integer (fun _ _ h => h.len) fun f cdv B out t H E gu hr => ⟨_, (pss_one (ps_ret (pe_and (pe_callB (k_isi (K := K) rfl) (by rfl) T.n_isinstance (by decide +kernel) (pa_cons (pv 0) (pa_cons (pe_bltn (v := .ty "int") (by rfl) T.n_int (by decide +kernel) rfl) pa_nil))) (pe_one (pe_not (pe_callB (k_isi (K := K) rfl) (by rfl) T.n_isinstance (by decide +kernel) (pa_cons (pv 0) (pa_cons (pe_bltn (v := .ty "bool") (by rfl) T.n_bool (by decide +kernel) rfl) pa_nil)))))))), fun W ds Φ hK hC => ?_⟩
  subst hK
  obtain ⟨x, rfl, ok, hΦ⟩ := hC
  dsimp only at hΦ
  rw [← inst_int] at hΦ
  walk_at "ws"
  refine op_isi (ok_notTy ok) (by decide) ⟨_, rfl, if_b (fun h => ?_) (fun h => ?_)⟩
  · rw [h] at hΦ
    walk_at "ws"
    exact op_isi (ok_notTy ok) (by decide) ⟨_, rfl, hΦ⟩
  · rw [h] at hΦ; exact hΦ
theorem ok_is_name (T : Txt1 mg) (Dd : DefIn K mg "is_name" s_is_name ["value"]) : Has P w K mg base 1 "is_name" ["value"] (spD K (C1 okD fun x => .bl (isName x))) := by
  refine has_D Dd sc_is_name (fun _ _ h => h.len) fun f cdv B out t H E gu hr => ⟨_, (pss_cons (ps_if (PW.pt (pw_or (pt_not (pt_val (pe_callB (k_isi (K := K) rfl) (by rfl) T.n_isinstance (by decide +kernel) (pa_cons (pv 0) (pa_cons (pe_bltn (v := .ty "str") (by rfl) T.n_str (by decide +kernel) rfl) pa_nil))))) (pw_or1 (pt_not (pt_chain op_le op_le pe_int (pe_callB (k_len (K := K) rfl) (by rfl) T.n_len PySem.boot_len (pa_cons (pv 0) pa_nil)) (pe_gc T.c_MOST_LETTERS (by rfl))))))) (pss_one (ps_ret pe_bl)) pss_nil)
      (pss_one (ps_ret (pe_callB (k_all (K := K) rfl rfl) (by rfl) T.n_all (by decide +kernel) (pa_cons (pe_lc (own := [("letter", 1)]) rfl sc_is_name.nd (pi_str (pv 0)) (blkOk_by (own := [("letter", 1)]) (N := N_is_name) (sc := defScope s_is_name) (by decide +kernel)) (fun _ _ _ _ _ => (pg_name (i := 1) sc_is_name.nd rfl (Or.inl rfl))) (fun _ _ _ _ _ => pts_nil) (fun _ _ _ _ _ => (pe_cmpR op_in_sign (pv 1) (pe_gc T.c_LETTERS (by rfl)) (by rfl)))) pa_nil))))), fun W ds Φ hK hC => ?_⟩
  subst hK
  obtain ⟨x, rfl, ok, hΦ⟩ := hC
  walk_at "ws"
  refine op_isi (ok_notTy ok) (by decide) ⟨_, rfl, ?_⟩
  rw [inst_str]
  cases x with
  | str z =>
    have hz : z.length ≤ sizeLine := by rw [okD, decide_eq_true_eq] at ok; exact ok
    refine wpT_is (!(decide (1 ≤ z.length) && decide (z.length ≤ 8))) ?_ ?_
    · walk_at "ws"
      refine op_len_s hz ?_
      walk_at "ws"
      refine if_b (fun h => ?_) (fun h => ?_)
      · walk_at "ws"
        refine ⟨rfl, ?_⟩
        have h' : 1 ≤ z.length := by have := of_decide_eq_true h; omega
        have h2 : ((z.length : Int) ≤ 8) ↔ z.length ≤ 8 := by omega
        simp [h', h2]
      · refine ⟨_, rfl, rfl, ?_⟩
        have h' : ¬ 1 ≤ z.length := by have := of_decide_eq_false h; omega
        simp [h']
    · dsimp only at hΦ
      rw [isName] at hΦ
      refine if_b (fun h => ?_) (fun h => ?_)
      · have h' : (decide (1 ≤ z.length) && decide (z.length ≤ 8)) = false := by rw [Bool.not_eq_true'] at h; exact h
        rw [h'] at hΦ
        walk_at "ws"
        exact hΦ
      · have h' : (decide (1 ≤ z.length) && decide (z.length ≤ 8)) = true := by rw [Bool.not_eq_false'] at h; exact h
        rw [h', Bool.true_and] at hΦ
        walk_at "ws"
        refine wp_map (L := [1]) (f := fun d => .bl (decide ((strOf d).cps.toList.head? ∈ letters.cps.toList.map some))) (by simp) (wi_str (wp_var rfl ⟨z, rfl, ?_, ?_, ?_⟩))
        · simpa [signs, Str.length] using hz
        · intro d hd
          obtain ⟨c, hc, rfl⟩ := List.mem_map.mp hd
          walk_at "ws"
          refine ⟨rfl, ?_⟩
          walk_at "ws"
          refine op_sign ⟨rfl, ?_⟩
          simp [strOf]
        · walk_at "ws"
          rw [all_map]
          refine op_all ?_
          have e : (List.map (fun d => decide ((strOf d).cps.toList.head? ∈ letters.cps.toList.map some)) (signs z)).all id = (z.cps.toList.all fun c => decide (c ∈ letters.cps.toList)) := by
            rw [signs, List.map_map, List.all_map]
            congr 1
            funext c
            simp [strOf]
          rw [e]
          exact hΦ
  | _ => walk_at "ws"; exact hΦ
theorem ok_is_ascending (T : Txt1 mg) (Dd : DefIn K mg "is_ascending" s_is_ascending ["some"]) : Has P w K mg base 1 "is_ascending" ["some"] (spD K CAsc) := by
  refine has_D Dd sc_is_ascending (fun _ _ h => h.len) fun f cdv B out t H E gu hr => ⟨_, (pss_one (ps_ret (pe_callB (k_all (K := K) rfl rfl) (by rfl) T.n_all (by decide +kernel) (pa_cons (pe_lc (own := [("one", 1), ("other", 2)]) rfl sc_is_ascending.nd (k_zip (K := K) rfl (by rfl) T.n_zip (pa_cons (pv 0) (pa_cons (pe_slice (k_slT (K := K) rfl) (pv 0) (po_some pe_int) po_none) pa_nil))) (blkOk_by (own := [("one", 1), ("other", 2)]) (N := N_is_ascending) (sc := defScope s_is_ascending) (by decide +kernel)) (fun _ _ _ _ _ => (k_tgt (K := K) (n := 2) rfl rfl (pgs_cons (pg_name (i := 1) sc_is_ascending.nd rfl (Or.inl rfl)) (pgs_cons (pg_name (i := 2) sc_is_ascending.nd rfl (Or.inl rfl)) pgs_nil)))) (fun _ _ _ _ _ => pts_nil) (fun _ _ _ _ _ => (pe_cmpR op_lt_str (pv 1) (pv 2) (nomark _)))) pa_nil)))), fun W ds Φ hK hC => ?_⟩
  subst hK
  obtain ⟨ss, rfl, hz, hΦ⟩ := hC
  walk_at "ws"
  refine wp_map (L := [1, 2]) (f := fun d => match d with | .tup [a, b] => .bl (ltS (strOf a) (strOf b)) | _ => .non) (by simp) (wi_zipT (wpA_cons (wp_var rfl (wpA_cons (wp_slT (wp_var rfl ⟨_, rfl, wpO_some (wp_ci ⟨_, rfl, wpO_none (wpA_nil ⟨_, _, rfl, ?_, ?_, ?_⟩)⟩)⟩))))))
  · simp [zipD]; omega
  · intro d hd
    obtain ⟨⟨a, b⟩, hab, rfl⟩ := List.mem_map.mp hd
    have h1 := List.of_mem_zip hab
    obtain ⟨s1, _, rfl⟩ := List.mem_map.mp h1.1
    obtain ⟨s2, _, e2⟩ := List.mem_map.mp (List.mem_of_mem_drop (List.mem_of_mem_take h1.2))
    subst e2
    refine wg_tup rfl (wgs_cons (wg_name (wgs_cons (wg_name (wgs_nil ⟨rfl, ?_⟩)))))
    walk_at "ws"
    exact op_lts ⟨rfl, rfl⟩
  · walk_at "ws"
    have e : List.map (fun d => match d with | .tup [a, b] => .bl (ltS (strOf a) (strOf b)) | _ => .non) (zipD (ss.map D.str) (cutD (ss.map D.str) (some 1) none)) = ((ss.zip (ss.drop 1)).map fun p => ltS p.1 p.2).map D.bl := by
      have e1 : cutD (ss.map D.str) (some 1) none = (ss.drop 1).map D.str := by
        rw [cut_tail, List.map_drop]
      rw [e1, zipD, List.map_map, List.zip_map, List.map_map, List.map_map]
      rfl
    rw [e]
    refine op_all ?_
    rw [List.all_map]
    exact hΦ
theorem ok_are_kinds (T : Txt1 mg) (Dd : DefIn K mg "are_kinds" s_are_kinds ["value"]) (h_is_name : Has P w K mg base 1 "is_name" ["value"] (spD K (C1 okD fun x => .bl (isName x)))) (h_is_ascending : Has P w K mg base 1 "is_ascending" ["some"] (spD K CAsc)) :
    Has P w K mg base 2 "are_kinds" ["value"] (spD K (C1 okD fun x => .bl (areKinds x))) := by
  refine has_D Dd sc_are_kinds (fun _ _ h => h.len) fun f cdv B out t H E gu hr => ⟨_, (pss_one (ps_ret (pe_and (pe_callB (k_isi (K := K) rfl) (by rfl) T.n_isinstance (by decide +kernel) (pa_cons (pv 0) (pa_cons (pe_bltn (v := .ty "tuple") (by rfl) T.n_tuple (by decide +kernel) rfl) pa_nil))) (pe_and (pe_callB (k_all (K := K) rfl rfl) (by rfl) T.n_all (by decide +kernel) (pa_cons (pe_lc (own := [("kind", 1)]) rfl sc_are_kinds.nd (k_tup (K := K) rfl (pv 0)) (blkOk_by (own := [("kind", 1)]) (N := N_are_kinds) (sc := defScope s_are_kinds) (by decide +kernel)) (fun _ _ _ _ _ => (pg_name (i := 1) sc_are_kinds.nd rfl (Or.inl rfl))) (fun _ _ _ _ _ => pts_nil) (fun _ _ _ _ _ => (pe_has h_is_name gu (hr.mono (by decide)) (by rfl) (pa_cons (pv 1) pa_nil)))) pa_nil)) (pe_one (pe_has h_is_ascending gu (hr.mono (by decide)) (by rfl) (pa_cons (pv 0) pa_nil))))))), fun W ds Φ hK hC => ?_⟩
  subst hK
  obtain ⟨x, rfl, ok, hΦ⟩ := hC
  walk_at "ws"
  refine op_isi (ok_notTy ok) (by decide) ⟨_, rfl, ?_⟩
  rw [inst_tup]
  cases x with
  | tup xs =>
    obtain ⟨hl, hx⟩ := ok_tup ok
    walk_at "ws"
    refine wp_map (L := [1]) (f := fun d => .bl (isName d)) (by simp) (wi_tup (wp_var rfl ⟨xs, rfl, hl, fun d hd => ?_, ?_⟩))
    · walk_at "ws"
      refine ⟨rfl, wp_call ?_⟩
      walk_at "ws"
      exact ⟨hx d hd, rfl, rfl⟩
    · walk_at "ws"
      rw [all_map]
      refine op_all ⟨_, rfl, ?_⟩
      rw [List.all_map]
      dsimp only at hΦ
      rw [areKinds] at hΦ
      refine if_b (fun h => ?_) (fun h => ?_)
      · have h' : xs.all isName = true := h
        rw [h', Bool.true_and] at hΦ
        refine wp_call ?_
        walk_at "ws"
        refine ⟨xs.map strOf, ?_, by simpa using hl, hΦ⟩
        rw [← names_strs h']
      · have h' : xs.all isName = false := h
        rw [h', Bool.false_and] at hΦ
        exact hΦ
  | _ => walk_at "ws"; exact hΦ
end
end FR
namespace FR
open PySem PySem.Spec PyProof.Rows L2
local macro_rules | `(tactic| walk_at "w") => `(tactic| first
  | with_reducible refine ws_seq ?_ | with_reducible refine ws_next ?_ | with_reducible refine ws_ret ?_ | with_reducible refine ws_retN ?_ | with_reducible refine ws_if ?_ | with_reducible refine ws_drop ?_ | with_reducible refine ws_set ?_ | with_reducible refine wg_name ?_
  | refine wp_var rfl ?_ | with_reducible refine wp_ci ?_ | with_reducible refine wp_cs ?_ | with_reducible refine wp_cb ?_ | with_reducible refine wp_cn ?_ | with_reducible refine wp_ct ?_
  | with_reducible refine wpA_nil ?_ | with_reducible refine wpA_cons ?_ | with_reducible refine wp_tup ?_ | with_reducible refine wp_lst ?_ | with_reducible refine wp_op ?_ | with_reducible refine wp_un ?_ | with_reducible refine wp_cb2 ?_ | with_reducible refine wp_if ?_
  | with_reducible refine wp_andV ?_ | with_reducible refine wp_orV ?_ | with_reducible refine wp_notV ?_ | with_reducible refine wp_chain ?_
  | with_reducible refine wpT_B ?_ | with_reducible refine wpT_test ?_ | with_reducible refine wpT_and ?_ | with_reducible refine wpT_or ?_ | with_reducible refine wpT_not ?_ | with_reducible refine wpT_yes ?_
  | refine op2_i (fun _ _ => .bl _) ?_ | refine op2_i (fun _ _ => .int _) ?_
  | refine L2.iteT ?_ | refine L2.iteF ?_ | refine And.intro (sz rfl) ?_
  | refine ⟨_, rfl, ?_⟩)
local macro_rules | `(tactic| walk_at "ws") => `(tactic| repeat walk_at "w")



/-! ## counters -/
def isSize : D → Bool
  | .non => true
  | .int i => decide (2 ≤ i) && decide (i ≤ 999)
  | _ => false
def notEmp : D → Bool
  | .tup [] => false
  | _ => true
def isCounter : D → Bool
  | .tup [k, s] => areKinds k && notEmp k && isSize s
  | _ => false
def isCounters : D → Bool
  | .tup xs => decide (1 ≤ xs.length) && decide (xs.length ≤ 3) && xs.all isCounter
  | _ => false
/-- the kinds of a counter -/
def headT : D → List D
  | .tup (.tup ks :: _) => ks
  | _ => []
def elems : D → List D
  | .tup xs => xs
  | _ => []
def manyFor (cs kinds : List D) : Nat := (cs.filter fun c => kinds.any fun k => inD k (headT c)).length
def showsShort (cs kinds : List D) (v : D) : Bool := areKinds v && (elems v).all (fun k => inD k kinds) && decide (manyFor cs (elems v) < (elems v).length)

theorem name_ok {x : D} (h : isName x = true) : flatD x = true ∧ noDct x = true ∧ (py x).canLay0 = true ∧ (py x).depth = 0 ∧ okD x = true := by
  cases x with
  | str z =>
    rw [isName, Bool.and_eq_true, Bool.and_eq_true, decide_eq_true_eq, decide_eq_true_eq, List.all_eq_true] at h
    refine ⟨rfl, rfl, ?_, rfl, ?_⟩
    · show PyData.strOk z = true
      unfold PyData.strOk
      rw [Array.all_eq_true']
      intro c hc
      have h2 := of_decide_eq_true (h.2 c (by simpa using hc))
      have h3 : ∀ c ∈ letters.cps.toList, c < 0x110000 := by decide +kernel
      exact decide_eq_true (h3 c h2)
    · show decide (z.length ≤ sizeLine) = true
      rw [decide_eq_true_eq, sizeLine_eq]
      omega
  | _ => cases h
theorem names_ok : ∀ {xs : List D}, xs.all isName = true → xs.all flatD = true ∧ noDctL xs = true ∧ PyData.canLayAll0 (pyL xs) = true ∧ PyData.depthAll (pyL xs) = 0 ∧ okL xs = true
  | [], _ => ⟨rfl, rfl, rfl, rfl, rfl⟩
  | x :: xs, h => by
    rw [List.all_cons, Bool.and_eq_true] at h
    obtain ⟨a1, a2, a3, a4, a5⟩ := name_ok h.1
    obtain ⟨b1, b2, b3, b4, b5⟩ := names_ok h.2
    refine ⟨by rw [List.all_cons, a1, b1]; rfl, by rw [noDctL, a2, b2]; rfl, ?_, ?_, by rw [okL, a5, b5]; rfl⟩
    · rw [pyL, PyData.canLayAll0, a3, b3]; rfl
    · rw [pyL, PyData.depthAll, a4, b4]; rfl
theorem names_shaped {xs : List D} (h : xs.all isName = true) : noDct (.tup xs) = true ∧ SeqAt.shaped (py (.tup xs)) = true := by
  obtain ⟨b1, b2, b3, b4, b5⟩ := names_ok h
  refine ⟨by rw [noDct]; exact b2, ?_⟩
  unfold SeqAt.shaped
  rw [py, PyData.canLay0, PyData.depth, b3, b4]
  rfl
theorem kinds_tup {x : D} (h : areKinds x = true) : ∃ xs, x = .tup xs ∧ xs.all isName = true ∧ ascS (xs.map strOf) = true := by
  cases x with
  | tup xs =>
    rw [areKinds, Bool.and_eq_true] at h
    exact ⟨xs, rfl, h.1, h.2⟩
  | _ => cases h
theorem counter_tup {c : D} (h : isCounter c = true) : ∃ ks s, c = .tup [.tup ks, s] ∧ ks.all isName = true ∧ isSize s = true := by
  match c, h with
  | .tup [k, s], h =>
    have e1 : isCounter (.tup [k, s]) = (areKinds k && notEmp k && isSize s) := rfl
    rw [e1, Bool.and_eq_true, Bool.and_eq_true] at h
    obtain ⟨ks, rfl, h1, _⟩ := kinds_tup h.1.1
    exact ⟨ks, s, rfl, h1, h.2⟩
theorem ix0 (a : D) (l : List D) : atI (a :: l) (0 : Int) = some a := by
  unfold atI ixN
  rw [if_pos (by decide), if_pos (by rw [List.length_cons]; omega)]
  rfl
theorem ix1 (a b : D) (l : List D) : atI (a :: b :: l) (1 : Int) = some b := by
  unfold atI ixN
  rw [if_pos (by decide), if_pos (by rw [List.length_cons, List.length_cons]; omega)]
  rfl

abbrev s_is_size : Stmt := top 14
abbrev N_is_size : List Str := ["value"]
theorem sc_is_size : FnScope N_is_size ["value"] (defScope s_is_size) := ⟨rfl, rfl, rfl, by decide +kernel, rfl, by decide +kernel, by decide +kernel⟩

abbrev s_is_counter : Stmt := top 15
abbrev N_is_counter : List Str := ["value"]
theorem sc_is_counter : FnScope N_is_counter ["value"] (defScope s_is_counter) := ⟨rfl, rfl, rfl, by decide +kernel, rfl, by decide +kernel, by decide +kernel⟩

abbrev s_is_counters : Stmt := top 16
abbrev N_is_counters : List Str := ["value", "counter"]
theorem sc_is_counters : FnScope N_is_counters ["value"] (defScope s_is_counters) := ⟨rfl, rfl, rfl, by decide +kernel, rfl, by decide +kernel, by decide +kernel⟩

abbrev s_check_counters : Stmt := top 17
abbrev N_check_counters : List Str := ["counters"]
theorem sc_check_counters : FnScope N_check_counters ["counters"] (defScope s_check_counters) := ⟨rfl, rfl, rfl, by decide +kernel, rfl, by decide +kernel, by decide +kernel⟩

def CMany (f : List D → List D → D) : List D → (D → Prop) → Prop := fun ds Φ => ∃ cs kinds, ds = [.tup cs, .tup kinds] ∧ cs.all isCounter = true ∧ cs.length ≤ 3 ∧ kinds.all isName = true ∧ kinds.length ≤ sizeLine ∧ Φ (f cs kinds)
theorem CMany.len {f : List D → List D → D} {ds : List D} {Φ : D → Prop} (h : CMany f ds Φ) : ds.length = 2 := by obtain ⟨x, y, rfl, _⟩ := h; rfl
def CShow : List D → (D → Prop) → Prop := fun ds Φ => ∃ cs kinds v, ds = [.tup cs, .tup kinds, v] ∧ isCounters (.tup cs) = true ∧ okD (.tup cs) = true ∧ areKinds (.tup kinds) = true ∧ okD (.tup kinds) = true ∧ okD v = true ∧ Φ (.bl (showsShort cs kinds v))
theorem CShow.len {ds : List D} {Φ : D → Prop} (h : CShow ds Φ) : ds.length = 3 := by obtain ⟨x, y, z, rfl, _⟩ := h; rfl
def CChk : List D → (D → Prop) → Prop := fun ds Φ => ∃ x y, ds = [x, y] ∧ okD x = true ∧ isCounters x = true ∧ okD y = true ∧ areKinds y = true ∧ Φ .non
theorem CChk.len {ds : List D} {Φ : D → Prop} (h : CChk ds Φ) : ds.length = 2 := by obtain ⟨x, y, rfl, _⟩ := h; rfl

section
variable {P : Program} {w : World} {K : PySem.W.Frag} {mg : Str → Option Value} {base : Heap}
theorem ok_is_size (T : Txt1 mg) (Dd : DefIn K mg "is_size" s_is_size ["value"]) (h_is_integer : Has P w K mg base 1 "is_integer" ["value"] (spD K (C1 okD fun x => .bl (isInt x)))) :
    Has P w K mg base 2 "is_size" ["value"] (spD K (C1 okD fun x => .bl (isSize x))) := by
  refine has_D Dd sc_is_size (fun _ _ h => h.len) fun f cdv B out t H E gu hr => ⟨_, (pss_one (ps_ret (pe_or (pe_cmpR op_isN (pv 0) pe_non (nomark _)) (pe_one (pe_and (pe_has h_is_integer gu (hr.mono (by decide)) (by rfl) (pa_cons (pv 0) pa_nil)) (pe_one (pe_chain op_le op_le (pe_gc T.c_LEAST_SIZE (by rfl)) (pv 0) (pe_gc T.c_MOST_SIZE (by rfl))))))))), fun W ds Φ hK hC => ?_⟩
  subst hK
  obtain ⟨x, rfl, ok, hΦ⟩ := hC
  walk_at "ws"
  refine op_is ⟨_, rfl, ?_⟩
  cases x with
  | non => walk_at "ws"; exact hΦ
  | int i =>
    walk_at "ws"
    refine wp_call ?_
    walk_at "ws"
    refine ⟨ok, _, rfl, ?_⟩
    walk_at "ws"
    dsimp only at hΦ
    rw [isSize] at hΦ
    refine if_b (fun h => ?_) (fun h => ?_)
    · rw [h, Bool.true_and] at hΦ; walk_at "ws"; exact hΦ
    · rw [h, Bool.false_and] at hΦ; exact hΦ
  | _ =>
    walk_at "ws"
    refine wp_call ?_
    walk_at "ws"
    refine ⟨ok, _, rfl, ?_⟩
    walk_at "ws"
    exact hΦ
theorem ok_is_counter (T : Txt1 mg) (Dd : DefIn K mg "is_counter" s_is_counter ["value"]) (h_are_kinds : Has P w K mg base 2 "are_kinds" ["value"] (spD K (C1 okD fun x => .bl (areKinds x)))) (h_is_size : Has P w K mg base 2 "is_size" ["value"] (spD K (C1 okD fun x => .bl (isSize x)))) :
    Has P w K mg base 3 "is_counter" ["value"] (spD K (C1 okD fun x => .bl (isCounter x))) := by
  refine has_D Dd sc_is_counter (fun _ _ h => h.len) fun f cdv B out t H E gu hr => ⟨_, (pss_cons (ps_if (PW.pt (pw_or (pt_not (pt_val (pe_callB (k_isi (K := K) rfl) (by rfl) T.n_isinstance (by decide +kernel) (pa_cons (pv 0) (pa_cons (pe_bltn (v := .ty "tuple") (by rfl) T.n_tuple (by decide +kernel) rfl) pa_nil))))) (pw_or1 (pt_cmpR op_ne (pe_callB (k_len (K := K) rfl) (by rfl) T.n_len PySem.boot_len (pa_cons (pv 0) pa_nil)) pe_int (nomark _))))) (pss_one (ps_ret pe_bl)) pss_nil)
      (pss_one (ps_ret (pe_and (pe_has h_are_kinds gu (hr.mono (by decide)) (by rfl) (pa_cons (pe_ix (k_ixT (K := K) rfl) (pv 0) pe_int (fun _ _ => rfl)) pa_nil)) (pe_and (pe_cmpR (k_neD (K := K) rfl hr.units) (pe_ix (k_ixT (K := K) rfl) (pv 0) pe_int (fun _ _ => rfl)) (pe_tup pa_nil) (nomark _)) (pe_one (pe_has h_is_size gu (hr.mono (by decide)) (by rfl) (pa_cons (pe_ix (k_ixT (K := K) rfl) (pv 0) pe_int (fun _ _ => rfl)) pa_nil)))))))), fun W ds Φ hK hC => ?_⟩
  subst hK
  obtain ⟨x, rfl, ok, hΦ⟩ := hC
  dsimp only at hΦ
  walk_at "ws"
  refine op_isi (ok_notTy ok) (by decide) ⟨_, rfl, ?_⟩
  rw [inst_tup]
  cases x with
  | tup xs =>
    obtain ⟨hl, hx⟩ := ok_tup ok
    walk_at "ws"
    refine op_len_t ?_
    walk_at "ws"
    refine op_nes rfl ⟨_, rfl, ?_⟩
    match xs, hΦ, hx with
    | [a, b], hΦ, hx =>
      walk_at "ws"
      have e1 : isCounter (.tup [a, b]) = (areKinds a && notEmp a && isSize b) := rfl
      rw [e1] at hΦ
      refine wp_call ?_
      walk_at "ws"
      refine op_ixT (ix0 _ _) ?_
      walk_at "ws"
      refine ⟨hx a (by simp), _, rfl, ?_⟩
      refine if_b (fun h => ?_) (fun h => ?_)
      · rw [h, Bool.true_and] at hΦ
        obtain ⟨ks, rfl, h1, h2⟩ := kinds_tup h
        obtain ⟨n1, n2⟩ := names_shaped h1
        walk_at "ws"
        refine op_ixT (ix0 _ _) ?_
        walk_at "ws"
        refine op_ned n1 rfl n2 rfl ⟨_, rfl, ?_⟩
        cases ks with
        | nil => walk_at "ws"; exact hΦ
        | cons k ks =>
          walk_at "ws"
          refine wp_call ?_
          walk_at "ws"
          refine op_ixT (ix1 _ _ _) ?_
          walk_at "ws"
          exact ⟨hx b (by simp), hΦ⟩
      · rw [h, Bool.false_and, Bool.false_and] at hΦ; exact hΦ
    | [], hΦ, hx => walk_at "ws"; exact hΦ
    | [a], hΦ, hx => walk_at "ws"; exact hΦ
    | a :: b :: c :: l, hΦ, hx =>
      have e : eqD (.int ((a :: b :: c :: l).length : Nat)) (.int 2) = false := by
        simp [eqD]; omega
      rw [e]
      walk_at "ws"
      exact hΦ
  | _ => walk_at "ws"; exact hΦ
theorem ok_is_counters (T : Txt1 mg) (Dd : DefIn K mg "is_counters" s_is_counters ["value"]) (h_is_counter : Has P w K mg base 3 "is_counter" ["value"] (spD K (C1 okD fun x => .bl (isCounter x)))) :
    Has P w K mg base 4 "is_counters" ["value"] (spD K (C1 okD fun x => .bl (isCounters x))) := by
  refine has_D Dd sc_is_counters (fun _ _ h => h.len) fun f cdv B out t H E gu hr => ⟨_, (pss_cons (ps_if (PW.pt (pw_or (pt_not (pt_val (pe_callB (k_isi (K := K) rfl) (by rfl) T.n_isinstance (by decide +kernel) (pa_cons (pv 0) (pa_cons (pe_bltn (v := .ty "tuple") (by rfl) T.n_tuple (by decide +kernel) rfl) pa_nil))))) (pw_or1 (pt_not (pt_chain op_le op_le pe_int (pe_callB (k_len (K := K) rfl) (by rfl) T.n_len PySem.boot_len (pa_cons (pv 0) pa_nil)) (pe_gc T.c_MOST_COUNTERS (by rfl))))))) (pss_one (ps_ret pe_bl)) pss_nil)
      (pss_one (ps_ret (pe_callB (k_all (K := K) rfl rfl) (by rfl) T.n_all (by decide +kernel) (pa_cons (pe_lc (own := [("counter", 1)]) rfl sc_is_counters.nd (k_tup (K := K) rfl (pv 0)) (blkOk_by (own := [("counter", 1)]) (N := N_is_counters) (sc := defScope s_is_counters) (by decide +kernel)) (fun _ _ _ _ _ => (pg_name (i := 1) sc_is_counters.nd rfl (Or.inl rfl))) (fun _ _ _ _ _ => pts_nil) (fun _ _ _ _ _ => (pe_has h_is_counter gu (hr.mono (by decide)) (by rfl) (pa_cons (pv 1) pa_nil)))) pa_nil))))), fun W ds Φ hK hC => ?_⟩
  subst hK
  obtain ⟨x, rfl, ok, hΦ⟩ := hC
  dsimp only at hΦ
  walk_at "ws"
  refine op_isi (ok_notTy ok) (by decide) ⟨_, rfl, ?_⟩
  rw [inst_tup]
  cases x with
  | tup xs =>
    obtain ⟨hl, hx⟩ := ok_tup ok
    rw [isCounters] at hΦ
    refine L2.iteF ?_
    refine wpT_is (!(decide (1 ≤ xs.length) && decide (xs.length ≤ 3))) ?_ ?_
    · walk_at "ws"
      refine op_len_t ?_
      walk_at "ws"
      refine if_b (fun h => ?_) (fun h => ?_)
      · walk_at "ws"
        refine ⟨rfl, ?_⟩
        have h' : 1 ≤ xs.length := by have := of_decide_eq_true h; omega
        have h2 : ((xs.length : Int) ≤ 3) ↔ xs.length ≤ 3 := by omega
        simp [h', h2]
      · refine ⟨_, rfl, rfl, ?_⟩
        have h' : ¬ 1 ≤ xs.length := by have := of_decide_eq_false h; omega
        simp [h']
    · refine if_b (fun h => ?_) (fun h => ?_)
      · rw [Bool.not_eq_true'] at h
        rw [h] at hΦ
        walk_at "ws"
        exact hΦ
      · rw [Bool.not_eq_false'] at h
        rw [h, Bool.true_and] at hΦ
        walk_at "ws"
        refine wp_map (L := [1]) (f := fun d => .bl (isCounter d)) (by simp) (wi_tup (wp_var rfl ⟨xs, rfl, hl, fun d hd => ?_, ?_⟩))
        · walk_at "ws"
          refine ⟨rfl, wp_call ?_⟩
          walk_at "ws"
          exact ⟨hx d hd, rfl, rfl⟩
        · walk_at "ws"
          rw [all_map]
          refine op_all ?_
          rw [List.all_map]
          exact hΦ
  | _ => walk_at "ws"; exact hΦ
theorem ok_check_counters (T : Txt1 mg) (Dd : DefIn K mg "check_counters" s_check_counters ["counters"]) (h_is_counters : Has P w K mg base 4 "is_counters" ["value"] (spD K (C1 okD fun x => .bl (isCounters x)))) :
    Has P w K mg base 5 "check_counters" ["counters"] (spD K (C1 (fun x => okD x && isCounters x) fun _ => .non)) := by
  refine has_D Dd sc_check_counters (fun _ _ h => h.len) fun f cdv B out t H E gu hr => ⟨_, (pss_one (ps_if (pt_not (pt_val (pe_has h_is_counters gu (hr.mono (by decide)) (by rfl) (pa_cons (pv 0) pa_nil)))) (pss_one ps_never) pss_nil)), fun W ds Φ hK hC => ?_⟩
  subst hK
  obtain ⟨x, rfl, ok, hΦ⟩ := hC
  rw [Bool.and_eq_true] at ok
  walk_at "ws"
  refine wp_call ?_
  walk_at "ws"
  refine ⟨ok.1, _, rfl, ?_⟩
  rw [ok.2]
  walk_at "ws"
  exact hΦ
end
end FR
namespace FR
open PySem PySem.Spec PyProof.Rows L2
local macro_rules | `(tactic| walk_at "w") => `(tactic| first
  | with_reducible refine ws_seq ?_ | with_reducible refine ws_next ?_ | with_reducible refine ws_ret ?_ | with_reducible refine ws_retN ?_ | with_reducible refine ws_if ?_ | with_reducible refine ws_drop ?_ | with_reducible refine ws_set ?_ | with_reducible refine wg_name ?_
  | refine wp_var rfl ?_ | with_reducible refine wp_ci ?_ | with_reducible refine wp_cs ?_ | with_reducible refine wp_cb ?_ | with_reducible refine wp_cn ?_ | with_reducible refine wp_ct ?_
  | with_reducible refine wpA_nil ?_ | with_reducible refine wpA_cons ?_ | with_reducible refine wp_tup ?_ | with_reducible refine wp_lst ?_ | with_reducible refine wp_op ?_ | with_reducible refine wp_un ?_ | with_reducible refine wp_cb2 ?_ | with_reducible refine wp_if ?_
  | with_reducible refine wp_andV ?_ | with_reducible refine wp_orV ?_ | with_reducible refine wp_notV ?_ | with_reducible refine wp_chain ?_
  | with_reducible refine wpT_B ?_ | with_reducible refine wpT_test ?_ | with_reducible refine wpT_and ?_ | with_reducible refine wpT_or ?_ | with_reducible refine wpT_not ?_ | with_reducible refine wpT_yes ?_
  | refine op2_i (fun _ _ => .bl _) ?_ | refine op2_i (fun _ _ => .int _) ?_
  | refine L2.iteT ?_ | refine L2.iteF ?_ | refine And.intro (sz rfl) ?_
  | refine ⟨_, rfl, ?_⟩)
local macro_rules | `(tactic| walk_at "ws") => `(tactic| repeat walk_at "w")



structure Txt2 (mg : Str → Option Value) : Prop extends Txt1 mg where
  n_abs : mg "abs" = none
  n_max : mg "max" = none
  n_min : mg "min" = none
  n_range : mg "range" = none
  n_repr : mg "repr" = none
  n_list : mg "list" = none

section
variable {W : Wo} {n : Nat} {Φ : D → Nat → Prop} {i j : Int}
theorem op_abs1 (q : Φ (.int (if i < 0 then -i else i)) n) : OpN W (fun xs H Q => ∃ i, xs = [.int i] ∧ Q (.int (if i < 0 then -i else i)) H) n [.int i] Φ :=
  opN1 (op1_pure (fun vx H Q h k => by cases h; exact ⟨_, rfl, k⟩) (fun _ _ => .int _) q)
theorem op_int_i (q : Φ (.int i) n) : OpN W (fun xs H Q => (∃ i, xs = [.int i] ∧ Q (.int i) H) ∨ ∃ k, xs = [.bl k] ∧ Q (.int (if k then 1 else 0)) H) n [.int i] Φ :=
  opN1 (op1_pure (fun vx H Q h k => by cases h; exact .inl ⟨_, rfl, k⟩) (fun _ _ => .int _) q)
theorem op_int_b {b : Bool} (q : Φ (.int (if b then 1 else 0)) n) : OpN W (fun xs H Q => (∃ i, xs = [.int i] ∧ Q (.int i) H) ∨ ∃ k, xs = [.bl k] ∧ Q (.int (if k then 1 else 0)) H) n [.bl b] Φ :=
  opN1 (op1_pure (fun vx H Q h k => by cases h; exact .inr ⟨_, rfl, k⟩) (fun _ _ => .int _) q)
end

abbrev s_law_pot : Stmt := top 22
abbrev N_law_pot : List Str := ["_law_script", "_law_k", "_law_cell", "_law_own", "_law_seed"]
theorem sc_law_pot : FnScope N_law_pot ["_law_script", "_law_k"] (defScope s_law_pot) := ⟨rfl, rfl, rfl, by decide +kernel, rfl, by decide +kernel, by decide +kernel⟩

abbrev s_law_take : Stmt := top 23
abbrev N_law_take : List Str := ["_law_pot_here", "_law_many", "_law_prime", "_law_mixed", "_law_digit"]
theorem sc_law_take : FnScope N_law_take ["_law_pot_here", "_law_many"] (defScope s_law_take) := ⟨rfl, rfl, rfl, by decide +kernel, rfl, by decide +kernel, by decide +kernel⟩

abbrev s_law_of : Stmt := top 24
abbrev N_law_of : List Str := ["_law_pot_here", "_law_some"]
theorem sc_law_of : FnScope N_law_of ["_law_pot_here", "_law_some"] (defScope s_law_of) := ⟨rfl, rfl, rfl, by decide +kernel, rfl, by decide +kernel, by decide +kernel⟩


def CPot : List D → (D → Prop) → Prop := fun ds Φ => ∃ (ns : List Int) (k : Int), ds = [.lsq (ns.map D.int), .int k] ∧ 0 ≤ k ∧ k ≤ 100 ∧ ∀ a b : Int, 0 ≤ a → a < 10 ^ 300 → 0 ≤ b → b < 2305843009213693921 → Φ (.lst [.int a, .int b, .int 0])
theorem CPot.len {ds : List D} {Φ : D → Prop} (h : CPot ds Φ) : ds.length = 2 := by obtain ⟨x, y, rfl, _⟩ := h; rfl
/-- a draw below many -/
def CTake : List D → Nat → (D → Nat → Prop) → Prop := fun ds n Φ => ∃ m : Int, ds = [.int m] ∧ 0 < m ∧ m ≤ 1000000 ∧ n < potMost ∧ ∀ r : Int, 0 ≤ r → r < m → Φ (.int r) (n + 1)
theorem CTake.len {ds : List D} {n : Nat} {Φ : D → Nat → Prop} (h : CTake ds n Φ) : ds.length + 1 = 2 := by obtain ⟨x, rfl, _⟩ := h; rfl
/-- one of some -/
def COf : List D → Nat → (D → Nat → Prop) → Prop := fun ds n Φ => ∃ xs : List D, ds = [.lst xs] ∧ xs ≠ [] ∧ xs.length ≤ 1000 ∧ n < potMost ∧ ∀ x ∈ xs, Φ x (n + 1)
theorem COf.len {ds : List D} {n : Nat} {Φ : D → Nat → Prop} (h : COf ds n Φ) : ds.length + 1 = 2 := by obtain ⟨x, rfl, _⟩ := h; rfl

section
variable {P : Program} {w : World} {K : PySem.W.Frag} {mg : Str → Option Value} {base : Heap}
theorem own_lt (c : Int) (b : Bool) : 0 ≤ (if c < 0 then -c else c) % ((10 ^ (60 : Int).toNat) ^ (5 : Int).toNat) * (if b then 1 else 0) ∧ (if c < 0 then -c else c) % ((10 ^ (60 : Int).toNat) ^ (5 : Int).toNat) * (if b then 1 else 0) < (10 : Int) ^ 300 := by
  have e : ((10 ^ (60 : Int).toNat) ^ (5 : Int).toNat : Int) = 10 ^ 300 := by decide +kernel
  rw [e]
  have p : (0 : Int) < 10 ^ 300 := by decide +kernel
  have h1 := Int.emod_nonneg (if c < 0 then -c else c) (by omega : (10 ^ 300 : Int) ≠ 0)
  have h2 := Int.emod_lt_of_pos (if c < 0 then -c else c) p
  generalize (if c < 0 then -c else c) % (10 ^ 300 : Int) = z at *
  cases b with
  | true => simp only [if_true, Int.mul_one]; exact ⟨h1, h2⟩
  | false => simp only [Bool.false_eq_true, if_false, Int.mul_zero]; exact ⟨Int.le_refl _, p⟩
theorem one_small (b : Bool) : -(2 ^ 64) < (if b = true then (1 : Int) else 0) ∧ (if b = true then (1 : Int) else 0) < 2 ^ 64 := by cases b <;> decide
theorem ok_law_pot (T : Txt2 mg) (Dd : DefIn K mg "_law_pot" s_law_pot ["_law_script", "_law_k"]) : Has P w K mg base 1 "_law_pot" ["_law_script", "_law_k"] (spD K CPot) := by
  refine has_D Dd sc_law_pot (fun _ _ h => h.len) fun f cdv B out t H E gu hr => ⟨_, (pss_cons (ps_set (i := 2) sc_law_pot.nd rfl (Or.inl rfl) (pe_ifExp (pt_cmpR op_lt (pv 1) (pe_callB (k_len (K := K) rfl) (by rfl) T.n_len PySem.boot_len (pa_cons (pv 0) pa_nil)) (nomark _)) (pe_ix (k_ixL (K := K) rfl) (pv 0) (pv 1) (fun _ _ => rfl)) (pe_op op_add (pe_op op_mul pe_int (pv 1)) pe_int)))
      (pss_cons (ps_set (i := 3) sc_law_pot.nd rfl (Or.inl rfl) (pe_op op_mul (pe_op op_mod (pe_callTy call_int1 (by rfl) T.n_int (by decide +kernel) (pa_cons (pe_callB call_abs (by rfl) T.n_abs (by decide +kernel) (pa_cons (pv 2) pa_nil)) pa_nil)) (pe_op op_powW (pe_op op_pow pe_int pe_int) pe_int)) (pe_callTy call_int1 (by rfl) T.n_int (by decide +kernel) (pa_cons (pe_cmpR op_ge (pe_callB call_abs (by rfl) T.n_abs (by decide +kernel) (pa_cons (pv 2) pa_nil)) (pe_op op_pow pe_int pe_int) (nomark _)) pa_nil))))
      (pss_cons (ps_set (i := 4) sc_law_pot.nd rfl (Or.inl rfl) (pe_op op_add (pe_op op_add (pe_op op_mul (pe_op op_mod (pe_callTy call_int1 (by rfl) T.n_int (by decide +kernel) (pa_cons (pv 2) pa_nil)) pe_int) pe_int) (pe_op op_mul (pe_op op_mul pe_int (pv 1)) (pv 1))) pe_int))
      (pss_one (ps_ret (pe_lst (pa_cons (pv 3) (pa_cons (pe_op op_mod (pe_callTy call_int1 (by rfl) T.n_int (by decide +kernel) (pa_cons (pv 4) pa_nil)) pe_int) (pa_cons pe_int pa_nil))))))))), fun W ds Φ hK hC => ?_⟩
  subst hK
  obtain ⟨ns, k, rfl, k0, k1, hΦ⟩ := hC
  refine ws_seq (ws_set ?_)
  refine Wp.mono (Φ := fun d m => m = 0 ∧ ∃ c, d = .int c) ?_ ?_
  · walk_at "ws"
    refine op_len_q ?_
    walk_at "ws"
    refine if_b (fun h => ?_) (fun h => ?_)
    · have h' : k < (ns.length : Int) := by have := of_decide_eq_true h; simpa using this
      walk_at "ws"
      have hk : k.toNat < ns.length := by omega
      refine op_ixLq (d := .int (ns[k.toNat])) ?_ ⟨rfl, _, rfl⟩
      unfold atI ixN
      rw [if_pos k0, if_pos (by simpa using h')]
      show (ns.map D.int)[k.toNat]? = _
      rw [List.getElem?_map, List.getElem?_eq_getElem hk]
      rfl
    · walk_at "ws"
      refine op2_ic (.inl ⟨by decide, by decide⟩) (fun _ _ => .int _) ?_
      walk_at "ws"
      exact ⟨rfl, _, rfl⟩
  · rintro d m ⟨rfl, c, rfl⟩
    walk_at "ws"
    refine op_abs1 ?_
    walk_at "ws"
    refine op_int_i ?_
    walk_at "ws"
    refine op2_ic ⟨by decide, by decide, by decide⟩ (fun _ _ => .int _) ?_
    walk_at "ws"
    refine op2_ic ⟨by decide, by decide +kernel⟩ (fun _ _ => .int _) ?_
    refine op2_ic (by decide +kernel) (fun _ _ => .int _) ?_
    walk_at "ws"
    refine op_abs1 ?_
    walk_at "ws"
    refine op2_ic ⟨by decide, by decide, by decide⟩ (fun _ _ => .int _) ?_
    walk_at "ws"
    refine op_int_b ?_
    refine op2_ic (.inr ?_) (fun _ _ => .int _) ?_
    · exact one_small _
    walk_at "ws"
    refine op_int_i ?_
    walk_at "ws"
    refine op2_ic (by decide) (fun _ _ => .int _) ?_
    walk_at "ws"
    refine op2_ic (.inr ⟨by decide, by decide⟩) (fun _ _ => .int _) ?_
    walk_at "ws"
    refine op2_ic (.inl ⟨by decide, by decide⟩) (fun _ _ => .int _) ?_
    walk_at "ws"
    refine op2_ic (.inr ⟨by omega, by omega⟩) (fun _ _ => .int _) ?_
    walk_at "ws"
    refine op_int_i ?_
    walk_at "ws"
    refine op2_ic (by decide) (fun _ _ => .int _) ?_
    walk_at "ws"
    refine hΦ _ _ (own_lt c _).1 (own_lt c _).2 (Int.emod_nonneg _ (by decide)) (Int.emod_lt_of_pos _ (by decide))
theorem ixL3 {a b c : V} (i : Nat) (h : i < 3) : atI [a, b, c] ((i : Nat) : Int) = [a, b, c][i]? := by
  unfold atI ixN
  rw [if_pos (by omega), if_pos (by simp only [List.length_cons, List.length_nil]; omega)]
  rfl
theorem ixN3 {xs : List V} (hx : xs.length = 3) (i : Nat) (h : i < 3) : ixN xs.length ((i : Nat) : Int) = some i := by
  unfold ixN
  rw [if_pos (by omega), if_pos (by omega)]
  rfl
theorem pot_upd {H : Hp} {p : Addr} {xs : List V} {a b c : Int} {n : Nat} (ha : 0 ≤ a) (ha2 : a < 10 ^ 300) (hb : 0 ≤ b) (hb2 : b < 2305843009213693921) (hc : 0 ≤ c) (hc2 : c ≤ n) : PotOk (upd H p (.lst [.int a, .int b, .int c])) p n :=
  ⟨a, b, c, upd_same, ha, ha2, hb, hb2, hc, hc2⟩
theorem div_lt {a m : Int} (ha : 0 ≤ a) (h : a < 10 ^ 300) (hm : 0 < m) : 0 ≤ a / m ∧ a / m < 10 ^ 300 :=
  ⟨Int.ediv_nonneg ha (by omega), Int.lt_of_le_of_lt (Int.ediv_le_self m ha) h⟩
theorem prime_at (k : Nat) (h : k < 4) : ∃ q : Int, atI [V.int 2305843009213693951, V.int 2305843009213693921, V.int 2305843009213693907, V.int 2305843009213693723] ((k : Nat) : Int) = some (.int q) ∧ 0 < q ∧ q ≤ 2305843009213693951 := by
  match k, h with
  | 0, _ => exact ⟨_, rfl, by decide, by decide⟩
  | 1, _ => exact ⟨_, rfl, by decide, by decide⟩
  | 2, _ => exact ⟨_, rfl, by decide, by decide⟩
  | 3, _ => exact ⟨_, rfl, by decide, by decide⟩
theorem ok_law_take (T : Txt2 mg) (Dd : DefIn K mg "_law_take" s_law_take ["_law_pot_here", "_law_many"]) : Has P w K mg base 1 "_law_take" ["_law_pot_here", "_law_many"] (spP K CTake) := by
  refine has_sp Dd sc_law_take (fun vs H Q E h => ?_) fun f cdv B out t H vs Q E gu hr h => ?_
  · obtain ⟨M, p, us, n, ds, Φ, rfl, _, _, _, r, c, _⟩ := h
    obtain ⟨m, rfl, _⟩ := c
    rw [List.length_cons, r.len]; rfl
  · obtain ⟨M, p, us, n, ds, Φ, rfl, hp, hM, ⟨a, b, c, hH, a0, a1, b0, b1, c0, c1⟩, r, ⟨m, rfl, m0, m1, hn, hΦ⟩, k⟩ := h
    cases r with
    | cons r1 r2 =>
      cases r2
      cases r1
      have kp : ∀ xs, ∀ b o, b ≠ p → H b = some o → upd H p (.lst xs) b = some o := fun xs b o hb e => by rw [upd_ne hb]; exact e
      refine ⟨_, (pss_cons (ps_if (pt_cmpR op_gt (pe_ix (k_ixL (K := K) rfl) (pv 0) pe_int (fun _ _ => rfl)) pe_int (nomark _)) (pss_cons (ps_set (i := 4) sc_law_take.nd rfl (Or.inl rfl) (pe_op op_mod (pe_callTy call_int1 (by rfl) T.n_int (by decide +kernel) (pa_cons (pe_ix (k_ixL (K := K) rfl) (pv 0) pe_int (fun _ _ => rfl)) pa_nil)) (pv 1)))
      (pss_cons (ps_asg (pe_op op_fdiv (pe_ix (k_ixL (K := K) rfl) (pv 0) pe_int (fun _ _ => rfl)) (pv 1)) (pg_sub (pv 0) pe_int set_list))
      (pss_one (ps_ret (pv 4))))) pss_nil)
      (pss_cons (ps_asg (pe_op op_add (pe_ix (k_ixL (K := K) rfl) (pv 0) pe_int (fun _ _ => rfl)) pe_int) (pg_sub (pv 0) pe_int set_list))
      (pss_cons (ps_set (i := 2) sc_law_take.nd rfl (Or.inl rfl) (pe_ix (k_ixL (K := K) rfl) (pe_lst (pa_cons pe_int (pa_cons pe_int (pa_cons pe_int (pa_cons pe_int pa_nil))))) (pe_op op_mod (pe_callTy call_int1 (by rfl) T.n_int (by decide +kernel) (pa_cons (pe_ix (k_ixL (K := K) rfl) (pv 0) pe_int (fun _ _ => rfl)) pa_nil)) pe_int) (fun _ _ => rfl)))
      (pss_cons (ps_set (i := 3) sc_law_take.nd rfl (Or.inl rfl) (pe_op op_mod (pe_callTy call_int1 (by rfl) T.n_int (by decide +kernel) (pa_cons (pe_op op_pow (pe_op op_add (pe_op op_add (pe_ix (k_ixL (K := K) rfl) (pv 0) pe_int (fun _ _ => rfl)) (pe_op op_mul (pe_op op_mul pe_int (pe_ix (k_ixL (K := K) rfl) (pv 0) pe_int (fun _ _ => rfl))) (pe_ix (k_ixL (K := K) rfl) (pv 0) pe_int (fun _ _ => rfl)))) pe_int) pe_int) pa_nil)) (pv 2)))
      (pss_cons (ps_set (i := 3) sc_law_take.nd rfl (Or.inl rfl) (pe_op op_mod (pe_callTy call_int1 (by rfl) T.n_int (by decide +kernel) (pa_cons (pe_op op_mul (pv 3) (pe_op op_add (pe_op op_mod (pe_callTy call_int1 (by rfl) T.n_int (by decide +kernel) (pa_cons (pv 3) pa_nil)) pe_int) (pe_op op_mul pe_int (pe_ix (k_ixL (K := K) rfl) (pv 0) pe_int (fun _ _ => rfl))))) pa_nil)) (pv 2)))
      (pss_one (ps_ret (pe_op op_mod (pe_callTy call_int1 (by rfl) T.n_int (by decide +kernel) (pa_cons (pe_op op_fdiv (pv 3) pe_int) pa_nil)) (pv 1))))))))), ?_⟩
      refine ⟨_, rfl, p, _, 0, _, rfl, rfl, .inl (.inl hH), ixL3 0 (by decide), _, _, rfl, rfl, _, rfl, ?_⟩
      refine if_b (fun h0 => ?_) (fun h0 => ?_)
      · refine ⟨_, rfl, p, _, 0, _, rfl, rfl, .inl (.inl hH), ixL3 0 (by decide), .inl ⟨_, rfl, _, rfl, _, _, rfl, rfl, m0, ?_⟩⟩
        refine ⟨_, rfl, p, _, 0, _, rfl, rfl, .inl (.inl hH), ixL3 0 (by decide), _, rfl, _, _, rfl, rfl, ⟨m0, by omega⟩, _, rfl, p, _, _, 0, rfl, rfl, hH, ixN3 rfl 0 (by decide), ?_⟩
        refine ⟨_, rfl, ?_⟩
        have hd := div_lt a0 a1 m0
        exact k _ _ _ _ (hΦ (a % m) (Int.emod_nonneg _ (by omega)) (Int.emod_lt_of_pos _ m0)) (kp _) (pot_upd (xs := []) hd.1 hd.2 b0 b1 c0 (by omega)) (.int _)
      · refine ⟨_, rfl, p, _, 2, _, rfl, rfl, .inl (.inl hH), ixL3 2 (by decide), _, _, rfl, rfl, _, rfl, p, _, _, 2, rfl, rfl, hH, ixN3 rfl 2 (by decide), ?_⟩
        generalize hH1e : upd H p (.lst (List.set [V.int a, V.int b, V.int c] 2 (V.int (c + 1)))) = H1
        have hH1 : H1 p = some (.lst [.int a, .int b, .int (c + 1)]) := by rw [← hH1e]; exact upd_same
        have k1 : ∀ b o, b ≠ p → H b = some o → H1 b = some o := fun b o hb e => by rw [← hH1e, upd_ne hb]; exact e
        refine ⟨sz rfl, fun q hq => ?_⟩
        have npq : p ≠ q := ne_of_none hH1 hq
        generalize hH2e : upd H1 q (.lst _) = H2
        have hH2 : H2 p = some (.lst [.int a, .int b, .int (c + 1)]) := by rw [← hH2e, upd_ne npq]; exact hH1
        have hq2 : H2 q = some (.lst [V.int 2305843009213693951, V.int 2305843009213693921, V.int 2305843009213693907, V.int 2305843009213693723]) := by rw [← hH2e]; exact upd_same
        have k2 : ∀ b o, b ≠ p → H b = some o → H2 b = some o := fun b o hb e => by
          rw [← hH2e, upd_ne (ne_of_none (k1 b o hb e) hq)]; exact k1 b o hb e
        have S : SqL K H2 p [.int a, .int b, .int (c + 1)] := .inl (.inl hH2)
        obtain ⟨j, hj, ej⟩ : ∃ j : Nat, j < 4 ∧ (c + 1) % 4 = ((j : Nat) : Int) := ⟨((c + 1) % 4).toNat, by omega, by omega⟩
        obtain ⟨pr, ep, pr0, pr1⟩ := prime_at j hj
        refine ⟨_, rfl, p, _, 2, _, rfl, rfl, S, ixL3 2 (by decide), .inl ⟨_, rfl, _, _, rfl, rfl, (by show (0 : Int) < 4; decide), q, _, _, _, rfl, rfl, .inl (.inl hq2), (by rw [ej]; exact ep), ?_⟩⟩
        have cn : c + 1 ≤ 1000000 := by have : potMost = 1000000 := rfl; omega
        have hb3 : b + 104729 * (c + 1) * (c + 1) + 29 < 2 ^ 63 ∧ 0 ≤ b + 104729 * (c + 1) * (c + 1) + 29 := by
          have e1 : 104729 * (c + 1) ≤ 104729 * 1000000 := by omega
          have e2 : 104729 * (c + 1) * (c + 1) ≤ 104729 * 1000000 * 1000000 := Int.mul_le_mul e1 cn (by omega) (by decide)
          have e3 : 0 ≤ 104729 * (c + 1) * (c + 1) := Int.mul_nonneg (by omega) (by omega)
          constructor
          · omega
          · omega
        refine ⟨_, rfl, p, _, 1, _, rfl, rfl, S, ixL3 1 (by decide), _, rfl, p, _, 2, _, rfl, rfl, S, ixL3 2 (by decide), _, _, rfl, rfl, .inl ⟨by decide, by decide⟩,
          _, rfl, p, _, 2, _, rfl, rfl, S, ixL3 2 (by decide), _, _, rfl, rfl, .inr ⟨by omega, by omega⟩, _, _, rfl, rfl, _, _, rfl, rfl, _, _, rfl, rfl, ⟨by decide, by decide, by omega⟩, .inl ⟨_, rfl, _, rfl, _, _, rfl, rfl, pr0, ?_⟩⟩
        generalize hmx : (b + 104729 * (c + 1) * (c + 1) + 29) ^ (3 : Int).toNat % pr = mx
        have mx0 : 0 ≤ mx := by rw [← hmx]; exact Int.emod_nonneg _ (by omega)
        have mx1 : mx < pr := by rw [← hmx]; exact Int.emod_lt_of_pos _ pr0
        refine ⟨_, rfl, _, rfl, .inl ⟨_, rfl, _, _, rfl, rfl, (by show (0 : Int) < 1000003; decide), _, rfl, p, _, 2, _, rfl, rfl, S, ixL3 2 (by decide), _, _, rfl, rfl, .inl ⟨by decide, by decide⟩, _, _, rfl, rfl, _, _, rfl, rfl, .inl ⟨by omega, by omega⟩, .inl ⟨_, rfl, _, rfl, _, _, rfl, rfl, pr0, ?_⟩⟩⟩
        refine ⟨_, rfl, _, _, rfl, rfl, ⟨by decide, by decide⟩, .inl ⟨_, rfl, _, rfl, _, _, rfl, rfl, m0, ?_⟩⟩
        exact k _ _ _ _ (hΦ _ (Int.emod_nonneg _ (by omega)) (Int.emod_lt_of_pos _ m0)) k2 ⟨a, b, c + 1, hH2, a0, a1, b0, b1, by omega, by omega⟩ (.int _)
theorem ok_law_of (T : Txt2 mg) (Dd : DefIn K mg "_law_of" s_law_of ["_law_pot_here", "_law_some"]) (h_law_take : Has P w K mg base 1 "_law_take" ["_law_pot_here", "_law_many"] (spP K CTake)) :
    Has P w K mg base 2 "_law_of" ["_law_pot_here", "_law_some"] (spP K COf) := by
  refine has_P Dd sc_law_of (fun _ _ _ h => h.len) fun f cdv B out t H E gu hr => ⟨_, (pss_one (ps_ret (pe_ix (k_ixL (K := K) rfl) (pv 1) (pe_has h_law_take gu (hr.mono (by decide)) (by rfl) (pa_cons (pv 0) (pa_cons (pe_callB (k_len (K := K) rfl) (by rfl) T.n_len PySem.boot_len (pa_cons (pv 1) pa_nil)) pa_nil))) (fun _ _ => rfl)))), fun W n ds Φ hK hC => ?_⟩
  subst hK
  obtain ⟨xs, rfl, hne, hl, hn, hΦ⟩ := hC
  have h0 : 0 < xs.length := List.length_pos_iff.mpr hne
  walk_at "ws"
  refine wp_callP rfl ?_
  walk_at "ws"
  refine op_len_l ?_
  walk_at "ws"
  refine ⟨by omega, by omega, hn, fun r r0 r1 => ?_⟩
  have hr : r.toNat < xs.length := by omega
  refine op_ixL (d := xs[r.toNat]) ?_ (hΦ _ (List.getElem_mem _))
  unfold atI ixN
  rw [if_pos r0, if_pos r1]
  show xs[r.toNat]? = _
  exact List.getElem?_eq_getElem hr
end
end FR
namespace FR
open PySem PySem.Spec PyProof.Rows L2
/-! ## data that can be shown -/
theorem fineL_all : ∀ xs : List D, fineL xs = xs.all fineD
  | [] => rfl
  | x :: xs => by rw [fineL, List.all_cons, fineL_all xs]
theorem dpL_le {k : Nat} : ∀ {xs : List D}, dpL xs ≤ k ↔ ∀ x ∈ xs, dp x ≤ k
  | [] => by simp [dpL]
  | x :: xs => by rw [dpL, Nat.max_le, dpL_le (xs := xs)]; simp
theorem wtL_app : ∀ xs ys : List D, wtL (xs ++ ys) = wtL xs + wtL ys
  | [], ys => by simp [wtL]
  | x :: xs, ys => by rw [List.cons_append, wtL, wtL, wtL_app xs ys]; omega
theorem wtL_sub : ∀ {xs ys : List D}, xs.Sublist ys → wtL xs ≤ wtL ys
  | _, _, .slnil => Nat.le_refl _
  | _, _, .cons a h => by rw [wtL]; have := wtL_sub h; omega
  | _, _, .cons₂ a h => by rw [wtL, wtL]; have := wtL_sub h; omega
theorem wtL_len : ∀ xs : List D, 2 * xs.length ≤ wtL xs
  | [] => Nat.le_refl _
  | x :: xs => by rw [wtL, List.length_cons]; have := wtL_len xs; omega
theorem wtL_set : ∀ (xs : List D) (i : Nat) (x y : D), xs[i]? = some x → wtL (xs.set i y) + wt x = wtL xs + wt y
  | [], _, _, _, h => by simp at h
  | a :: xs, 0, x, y, h => by
    have e : a = x := by simpa using h
    subst e
    rw [List.set_cons_zero, wtL, wtL]; omega
  | a :: xs, i + 1, x, y, h => by
    have := wtL_set xs i x y (by simpa using h)
    rw [List.set_cons_succ, wtL, wtL]; omega
mutual
theorem ok_fine : ∀ {d : D}, fineD d = true → wt d ≤ sizeLine → okD d = true
  | .non, _, _ => rfl
  | .bl _, _, _ => rfl
  | .int _, _, _ => rfl
  | .ty _, h, _ => by cases h
  | .lsq _, h, _ => by rw [fineD] at h; cases h
  | .str z, h, l => by
    rw [wt] at l
    show decide (z.length ≤ sizeLine) = true
    rw [decide_eq_true_eq]; omega
  | .lst xs, h, l => by
    rw [fineD] at h
    rw [wt] at l
    have := wtL_len xs
    rw [okD, okL_fine h (by omega), Bool.and_true, decide_eq_true_eq]; omega
  | .tup xs, h, l => by
    rw [fineD] at h
    rw [wt] at l
    have := wtL_len xs
    rw [okD, okL_fine h (by omega), Bool.and_true, decide_eq_true_eq]; omega
  | .dct xs, h, l => by
    rw [fineD] at h
    rw [wt] at l
    rw [okD]
    exact okK_fine h (by omega)
theorem okL_fine : ∀ {d : List D}, fineL d = true → wtL d ≤ sizeLine → okL d = true
  | [], _, _ => rfl
  | x :: xs, h, l => by
    rw [fineL, Bool.and_eq_true] at h
    rw [wtL] at l
    rw [okL, ok_fine h.1 (by omega), okL_fine h.2 (by omega)]; rfl
theorem okK_fine : ∀ {d : List (Key × D)}, fineK d = true → wtK d ≤ sizeLine → okK d = true
  | [], _, _ => rfl
  | (k, x) :: xs, h, l => by
    rw [fineK, Bool.and_eq_true, Bool.and_eq_true] at h
    rw [wtK] at l
    rw [okK, ok_fine h.1.2 (by omega), okK_fine h.2 (by omega)]; rfl
end
/-- fine, no deeper and no heavier -/
def fit (a b : Nat) (d : D) : Bool := fineD d && decide (dp d ≤ a) && decide (wt d ≤ b)
theorem fit_iff {a b : Nat} {d : D} : fit a b d = true ↔ fineD d = true ∧ dp d ≤ a ∧ wt d ≤ b := by
  unfold fit
  rw [Bool.and_eq_true, Bool.and_eq_true, decide_eq_true_eq, decide_eq_true_eq, and_assoc]
theorem fit.mono {a b a' b' : Nat} {d : D} (h : fit a b d = true) (ha : a ≤ a') (hb : b ≤ b') : fit a' b' d = true := by
  rw [fit_iff] at h ⊢
  exact ⟨h.1, by omega, by omega⟩
theorem fit.ok {a b : Nat} {d : D} (h : fit a b d = true) (hb : b ≤ 16000000) : okD d = true := by
  rw [fit_iff] at h
  exact ok_fine h.1 (by rw [sizeLine_eq]; omega)
theorem fit.show {a b : Nat} {d : D} (h : fit a b d = true) (ha : a ≤ 100) (hb : b ≤ 16000000) : canShow d = true := by
  rw [fit_iff] at h
  exact canShow_of h.1 (by omega) (by omega)
theorem fit_tup {a b : Nat} {xs : List D} (h : ∀ x ∈ xs, fineD x = true ∧ dp x ≤ a) (hw : wtL xs + 4 ≤ b) : fit (a + 1) b (.tup xs) = true := by
  rw [fit_iff, fineD, dp, wt, fineL_all, List.all_eq_true]
  refine ⟨fun x hx => (h x hx).1, ?_, hw⟩
  have := dpL_le.mpr fun x hx => (h x hx).2
  omega
theorem tup_fit {a b : Nat} {xs : List D} (h : fit a b (.tup xs) = true) : (∀ x ∈ xs, fineD x = true ∧ dp x + 1 ≤ a) ∧ wtL xs + 4 ≤ b := by
  rw [fit_iff, fineD, dp, wt, fineL_all, List.all_eq_true] at h
  refine ⟨fun x hx => ⟨h.1 x hx, ?_⟩, h.2.2⟩
  have := dpL_le.mp (Nat.le_refl (dpL xs)) x hx
  omega
theorem fit_lst {a b : Nat} {xs : List D} (h : ∀ x ∈ xs, fineD x = true ∧ dp x ≤ a) (hw : wtL xs + 4 ≤ b) : fit (a + 1) b (.lst xs) = true := by
  rw [fit_iff, fineD, dp, wt, fineL_all, List.all_eq_true]
  refine ⟨fun x hx => (h x hx).1, ?_, hw⟩
  have := dpL_le.mpr fun x hx => (h x hx).2
  omega
theorem cut_sub (xs : List D) (lo hi : Option Int) : (cutD xs lo hi).Sublist xs := (List.take_sublist _ _).trans (List.drop_sublist _ _)
theorem wt_name {x : D} (h : isName x = true) : fineD x = true ∧ dp x = 0 ∧ wt x ≤ 82 := by
  cases x with
  | str z =>
    have h' := h
    rw [isName, Bool.and_eq_true, Bool.and_eq_true, decide_eq_true_eq, decide_eq_true_eq] at h
    refine ⟨?_, rfl, ?_⟩
    · rw [fineD]
      unfold strFine
      rw [List.all_eq_true]
      intro c hc
      have h2 := of_decide_eq_true (List.all_eq_true.mp h.2 c hc)
      have h3 : ∀ c ∈ letters.cps.toList, c < 0x110000 := by decide +kernel
      exact decide_eq_true (h3 c h2)
    · rw [wt]; omega
  | _ => cases h
/-! ## settings -/
def isPut (c v : D) : Bool := isNon v || (isStr v && inD v (headT c))
def isPlace (cs : List D) : D → Bool
  | .tup xs => decide (xs.length = cs.length) && (cs.zip xs).all fun p => isPut p.1 p.2
  | _ => false
def nameOrNon (x : D) : Bool := isNon x || isName x
theorem nn_fine {x : D} (h : nameOrNon x = true) : fineD x = true ∧ dp x = 0 ∧ wt x ≤ 82 := by
  unfold nameOrNon at h
  rw [Bool.or_eq_true] at h
  rcases h with h | h
  · cases x <;> first | exact ⟨rfl, rfl, by decide⟩ | cases h
  · exact wt_name h
theorem wtL_le {b : Nat} : ∀ {xs : List D}, (∀ x ∈ xs, wt x ≤ b) → wtL xs ≤ (b + 2) * xs.length
  | [], _ => Nat.le_refl _
  | x :: xs, h => by
    rw [wtL, List.length_cons, Nat.mul_add]
    have h1 := h x (by simp)
    have h2 := wtL_le fun y hy => h y (List.mem_cons_of_mem _ hy)
    omega
end FR
namespace FR
open PySem PySem.Spec PyProof.Rows L2
local macro_rules | `(tactic| walk_at "w") => `(tactic| first
  | with_reducible refine ws_seq ?_ | with_reducible refine ws_next ?_ | with_reducible refine ws_ret ?_ | with_reducible refine ws_retN ?_ | with_reducible refine ws_if ?_ | with_reducible refine ws_drop ?_ | with_reducible refine ws_set ?_ | with_reducible refine wg_name ?_
  | refine wp_var rfl ?_ | with_reducible refine wp_ci ?_ | with_reducible refine wp_cs ?_ | with_reducible refine wp_cb ?_ | with_reducible refine wp_cn ?_ | with_reducible refine wp_ct ?_
  | with_reducible refine wpA_nil ?_ | with_reducible refine wpA_cons ?_ | with_reducible refine wp_tup ?_ | with_reducible refine wp_lst ?_ | with_reducible refine wp_op ?_ | with_reducible refine wp_un ?_ | with_reducible refine wp_cb2 ?_ | with_reducible refine wp_if ?_
  | with_reducible refine wp_andV ?_ | with_reducible refine wp_orV ?_ | with_reducible refine wp_notV ?_ | with_reducible refine wp_chain ?_
  | with_reducible refine wpT_B ?_ | with_reducible refine wpT_test ?_ | with_reducible refine wpT_and ?_ | with_reducible refine wpT_or ?_ | with_reducible refine wpT_not ?_ | with_reducible refine wpT_yes ?_
  | refine op2_i (fun _ _ => .bl _) ?_ | refine op2_i (fun _ _ => .int _) ?_
  | refine L2.iteT ?_ | refine L2.iteF ?_ | refine And.intro (sz rfl) ?_
  | refine ⟨_, rfl, ?_⟩)
local macro_rules | `(tactic| walk_at "ws") => `(tactic| repeat walk_at "w")



theorem names_shapedL {xs : List D} (h : xs.all isName = true) : noDct (.lst xs) = true ∧ SeqAt.shaped (py (.lst xs)) = true := by
  obtain ⟨b1, b2, b3, b4, b5⟩ := names_ok h
  refine ⟨by rw [noDct]; exact b2, ?_⟩
  unfold SeqAt.shaped
  rw [py, PyData.canLay0, PyData.depth, b3, b4]
  rfl
/-! ## parts of a list -/
def subs : List D → List (List D)
  | [] => [[]]
  | x :: xs => subs xs ++ (subs xs).map (x :: ·)
theorem mem_subs : ∀ {l xs : List D}, l.Sublist xs → l ∈ subs xs
  | _, _, .slnil => by simp [subs]
  | _, _, .cons a h => by
    unfold subs
    exact List.mem_append_left _ (mem_subs h)
  | _, _, .cons₂ a h => by
    unfold subs
    exact List.mem_append_right _ (List.mem_map.mpr ⟨_, mem_subs h, rfl⟩)
def s4 : List D := [.str "w", .str "x", .str "y", .str "z"]
def s5 : List D := [.str "v", .str "w", .str "x", .str "y", .str "z"]
theorem s4_kinds : ∀ l ∈ subs s4, (areKinds (.tup l) && decide (l.length ≤ 4)) = true := List.all_eq_true.mp (by decide +kernel)
theorem s5_kinds : ∀ l ∈ subs s5, (areKinds (.tup l) && decide (l.length ≤ 5)) = true := List.all_eq_true.mp (by decide +kernel)
/-- what a draw of some of a list can give -/
theorem take_sub {xs l : List D} {i : Nat} {d : D} (e : xs[i]? = some d) (h : l.Sublist (xs.take i)) : l.Sublist (xs.take (i + 1)) ∧ (l ++ [d]).Sublist (xs.take (i + 1)) := by
  rw [List.take_succ, e]
  exact ⟨h.trans (List.sublist_append_left _ _), h.append (.refl _)⟩

abbrev s_law_counters : Stmt := top 25
abbrev N_law_counters : List Str := ["_law_pot_here", "_law_most", "_law_found", "_law_turn", "_law_kinds", "_law_kind"]
theorem sc_law_counters : FnScope N_law_counters ["_law_pot_here", "_law_most"] (defScope s_law_counters) := ⟨rfl, rfl, rfl, by decide +kernel, rfl, by decide +kernel, by decide +kernel⟩


def CCtr : List D → Nat → (D → Nat → Prop) → Prop := fun ds n Φ => ∃ m : Int, ds = [.int m] ∧ 1 ≤ m ∧ m ≤ 3 ∧ n + 20 ≤ potMost ∧ ∀ cs n', n' ≤ n + 20 → isCounters (.tup cs) = true → fit 3 1300 (.tup cs) = true → Φ (.tup cs) n'
theorem CCtr.len {ds : List D} {n : Nat} {Φ : D → Nat → Prop} (h : CCtr ds n Φ) : ds.length + 1 = 2 := by obtain ⟨x, rfl, _⟩ := h; rfl
section
variable {P : Program} {w : World} {K : PySem.W.Frag} {mg : Str → Option Value} {base : Heap}
theorem size_ok {x : D} (h : x ∈ [D.non, .non, .int 2, .int 3, .int 5]) : isSize x = true ∧ okD x = true := by
  have := List.all_eq_true.mp (show ([D.non, .non, .int 2, .int 3, .int 5].all fun x => isSize x && okD x) = true from by decide +kernel) x h
  rwa [Bool.and_eq_true] at this
theorem size_fit {x : D} (h : x ∈ [D.non, .non, .int 2, .int 3, .int 5]) : fineD x = true ∧ dp x = 0 ∧ wt x ≤ 40 := by
  have := List.all_eq_true.mp (show ([D.non, .non, .int 2, .int 3, .int 5].all fun x => fineD x && (decide (dp x = 0) && decide (wt x ≤ 40))) = true from by decide +kernel) x h
  rwa [Bool.and_eq_true, Bool.and_eq_true, decide_eq_true_eq, decide_eq_true_eq] at this
theorem any_ge (ss : List Str) : ((ss.zip (ss.drop 1)).any fun p => !ltS p.1 p.2) = !ascS ss := by
  unfold ascS
  rw [List.not_all_eq_any_not]
theorem ok_law_counters (T : Txt2 mg) (Dd : DefIn K mg "_law_counters" s_law_counters ["_law_pot_here", "_law_most"]) (h_law_take : Has P w K mg base 1 "_law_take" ["_law_pot_here", "_law_many"] (spP K CTake)) (h_law_of : Has P w K mg base 2 "_law_of" ["_law_pot_here", "_law_some"] (spP K COf)) :
    Has P w K mg base 3 "_law_counters" ["_law_pot_here", "_law_most"] (spP K CCtr) := by
  refine has_P Dd sc_law_counters (fun _ _ _ h => h.len) fun f cdv B out t H E gu hr => ⟨_, (pss_cons (ps_set (i := 2) sc_law_counters.nd rfl (Or.inl rfl) (pe_lst pa_nil))
      (pss_cons (ps_for PassesOwn.never rfl (pi_range1 (by rfl) T.n_range (pa_cons (pe_op op_add pe_int (pe_has h_law_take gu (hr.mono (by decide)) (by rfl) (pa_cons (pv 0) (pa_cons (pv 1) pa_nil)))) pa_nil)) (pg_name (i := 3) sc_law_counters.nd rfl (Or.inl rfl)) (pss_cons (ps_setLc (i := 4) (own := [("_law_kind", 5)]) rfl sc_law_counters.nd rfl rfl (sw_true rfl rfl rfl (by decide +kernel)) (k_lst (K := K) rfl (pe_lst (pa_cons pe_str (pa_cons pe_str (pa_cons pe_str (pa_cons pe_str pa_nil)))))) (blkOk_by (own := [("_law_kind", 5)]) (N := N_law_counters) (sc := defScope s_law_counters) (by decide +kernel)) (fun _ _ _ _ _ => (pg_name (i := 5) sc_law_counters.nd rfl (Or.inl rfl))) (fun _ _ _ _ _ => (pts_one (pt_cmpR op_gt (pe_has h_law_take gu (hr.mono (by decide)) (by rfl) (pa_cons (pv 0) (pa_cons pe_int pa_nil))) pe_int (nomark _)))) (fun _ _ _ _ _ => (pv 5)))
      (pss_one (ps_expr (k_app (K := K) rfl (pv 2) (pe_tup (pa_cons (pe_callTy (k_tuple (K := K) rfl) (by rfl) T.n_tuple (by decide +kernel) (pa_cons (pe_ifExp (pt_cmpR (k_neD (K := K) rfl hr.units) (pv 4) (pe_lst pa_nil) (nomark _)) (pv 4) (pe_lst (pa_cons pe_str pa_nil))) pa_nil)) (pa_cons (pe_has h_law_of gu (hr.mono (by decide)) (by rfl) (pa_cons (pv 0) (pa_cons (pe_lst (pa_cons pe_non (pa_cons pe_non (pa_cons pe_int (pa_cons pe_int (pa_cons pe_int pa_nil)))))) pa_nil))) pa_nil))) (pe_bm PySem.F.plainAttrs_list PySem.F.slot_list_append PySem.F.type_list_append mt_append (pv 2) (pa_cons (pe_tup (pa_cons (pe_callTy (k_tuple (K := K) rfl) (by rfl) T.n_tuple (by decide +kernel) (pa_cons (pe_ifExp (pt_cmpR (k_neD (K := K) rfl hr.units) (pv 4) (pe_lst pa_nil) (nomark _)) (pv 4) (pe_lst (pa_cons pe_str pa_nil))) pa_nil)) (pa_cons (pe_has h_law_of gu (hr.mono (by decide)) (by rfl) (pa_cons (pv 0) (pa_cons (pe_lst (pa_cons pe_non (pa_cons pe_non (pa_cons pe_int (pa_cons pe_int (pa_cons pe_int pa_nil)))))) pa_nil))) pa_nil))) pa_nil)))))))
      (pss_one (ps_ret (pe_callTy (k_tuple (K := K) rfl) (by rfl) T.n_tuple (by decide +kernel) (pa_cons (pv 2) pa_nil)))))), fun W n ds Φ hK hC => ?_⟩
  subst hK
  obtain ⟨m, rfl, m0, m1, hn, hΦ⟩ := hC
  refine ws_seq (ws_own (Nat.le_of_ble_eq_true rfl) (fun zs e => nomatch e) ?_)
  refine ws_seq (ws_for (L := [3]) (wi_range (wpA_cons (wp_op (wp_ci (wp_callP rfl ?_))))))
  walk_at "ws"
  refine ⟨by omega, by omega, by omega, fun r r0 r1 => ?_⟩
  walk_at "ws"
  refine ⟨by omega, by omega, ?_⟩
  generalize hk : (1 + r).toNat = k
  have k0 : 1 ≤ k := by omega
  have k1 : k ≤ 3 := by omega
  refine ⟨fun i env' m' => ∃ cs e3 e4 e5, env' = [.pot, .d (.int m), .own cs, e3, e4, e5] ∧ cs.length = i ∧ cs.all isCounter = true ∧ cs.all (fit 2 400) = true ∧ m' ≤ n + 1 + 5 * i, ⟨[], _, _, _, rfl, rfl, rfl, rfl, by omega⟩, ?_, ?_⟩
  · rintro i d env' m' hd ⟨cs, e3, e4, e5, rfl, hl, hc, ho, hm⟩
    have hi : i < k := by
      have := (List.getElem?_eq_some_iff.mp hd).1
      simpa [rangeD] using this
    refine wg_name ?_
    refine ws_seq (ws_asg (L := [4]) ?_)
    refine wp_lc (L := [5]) (by simp) (wi_list ?_)
    walk_at "ws"
    refine ⟨fun j acc m2 => acc.Sublist (s4.take j) ∧ m2 = m' + j, ⟨.refl _, rfl⟩, sz rfl, ?_, ?_⟩
    · rintro j d2 acc m2 hd2 ⟨hs, rfl⟩
      obtain ⟨t1, t2⟩ := take_sub (xs := s4) hd2 hs
      refine wg_name ?_
      walk_at "ws"
      refine wp_callP rfl ?_
      walk_at "ws"
      have hj : j < 4 := (List.getElem?_eq_some_iff.mp hd2).1
      refine ⟨by decide, by decide, by omega, fun r r0 r1 => ?_⟩
      walk_at "ws"
      refine if_b (fun h => ?_) (fun h => ?_)
      · walk_at "ws"
        exact ⟨t2, by omega⟩
      · exact ⟨t1, by omega⟩
    · rintro acc m2 ⟨hs, rfl⟩ _
      have hs' : acc ∈ subs s4 := mem_subs hs
      have ha := s4_kinds acc hs'
      rw [Bool.and_eq_true, decide_eq_true_eq] at ha
      refine wg_name ?_
      refine ws_append (xs := cs) rfl ?_
      refine wp_tup (wpA_cons ?_)
      refine Wp.mono (Φ := fun d m => m = m' + 4 ∧ ∃ ks, d = .tup ks ∧ areKinds d = true ∧ ks ≠ [] ∧ ks.length ≤ 4 ∧ okD d = true) ?_ ?_
      · obtain ⟨ks, e, n1, n2⟩ := kinds_tup ha.1
        cases e
        obtain ⟨sh1, sh2⟩ := names_shapedL n1
        have hok := (names_ok n1).2.2.2.2
        walk_at "ws"
        refine op_ned sh1 rfl sh2 rfl ⟨_, rfl, ?_⟩
        cases acc with
        | nil =>
          walk_at "ws"
          refine op_tupleL ⟨rfl, _, rfl, by decide +kernel, by simp, by decide, by decide +kernel⟩
        | cons k ks =>
          walk_at "ws"
          refine op_tupleL ⟨rfl, _, rfl, ha.1, by simp, ha.2, ?_⟩
          rw [okD, hok, Bool.and_true, decide_eq_true_eq, sizeLine_eq]
          omega
      · rintro d m3 ⟨rfl, ks, rfl, a1, a2, a3, a4⟩
        refine wpA_cons (wp_callP rfl ?_)
        walk_at "ws"
        refine ⟨by simp, by decide, by omega, fun x hx => ?_⟩
        obtain ⟨x1, x2⟩ := size_ok hx
        walk_at "ws"
        have hlen : cs.length < sizeLine := by rw [sizeLine_eq]; omega
        refine ⟨hlen, cs ++ [.tup [.tup ks, x]], _, _, _, rfl, by simp [hl], ?_, ?_, by omega⟩
        · rw [List.all_append, hc, List.all_cons, List.all_nil]
          have e1 : isCounter (.tup [.tup ks, x]) = (areKinds (.tup ks) && notEmp (.tup ks) && isSize x) := rfl
          rw [e1, a1, x1]
          cases ks with
          | nil => exact absurd rfl a2
          | cons _ _ => rfl
        · have e2 : fit 2 400 (.tup [.tup ks, x]) = true := by
            obtain ⟨ks', ek, n1, _⟩ := kinds_tup a1
            cases ek
            obtain ⟨x3, x4, x5⟩ := size_fit hx
            have nm := fun y hy => wt_name (List.all_eq_true.mp n1 y hy)
            have wk := wtL_le (b := 82) fun y hy => (nm y hy).2.2
            refine fit_tup (a := 1) (fun y hy => ?_) ?_
            · simp only [List.mem_cons, List.not_mem_nil, or_false] at hy
              rcases hy with rfl | rfl
              · exact ⟨(fit_iff.mp (fit_tup (a := 0) (b := 340) (fun y hy => ⟨(nm y hy).1, by rw [(nm y hy).2.1]; exact Nat.le_refl _⟩) (by omega))).1, (fit_iff.mp (fit_tup (a := 0) (b := 340) (fun y hy => ⟨(nm y hy).1, by rw [(nm y hy).2.1]; exact Nat.le_refl _⟩) (by omega))).2.1⟩
              · exact ⟨x3, by omega⟩
            · rw [wtL, wtL, wtL, wt]; omega
          rw [List.all_append, ho, List.all_cons, e2]
          rfl
  · rintro env' m' ⟨cs, e3, e4, e5, rfl, hl, hc, ho, hm⟩
    have hl' : cs.length = k := by simpa [rangeD] using hl
    refine ws_freeze (xs := cs) (i := 2) rfl ?_
    walk_at "ws"
    refine op_tupleL (hΦ cs m' ?_ ?_ ?_)
    · have : (rangeD 0 k).length = k := by simp [rangeD]
      omega
    · rw [isCounters, hc, Bool.and_true, Bool.and_eq_true, decide_eq_true_eq, decide_eq_true_eq]
      omega
    · have hf := fun y hy => fit_iff.mp (List.all_eq_true.mp ho y hy)
      have wk := wtL_le (b := 400) fun y hy => (hf y hy).2.2
      exact fit_tup (a := 2) (fun y hy => ⟨(hf y hy).1, (hf y hy).2.1⟩) (by omega)

end
end FR
namespace FR
open PySem PySem.Spec PyProof.Rows L2
local macro_rules | `(tactic| walk_at "w") => `(tactic| first
  | with_reducible refine ws_seq ?_ | with_reducible refine ws_next ?_ | with_reducible refine ws_ret ?_ | with_reducible refine ws_retN ?_ | with_reducible refine ws_if ?_ | with_reducible refine ws_drop ?_ | with_reducible refine ws_set ?_ | with_reducible refine wg_name ?_
  | refine wp_var rfl ?_ | with_reducible refine wp_ci ?_ | with_reducible refine wp_cs ?_ | with_reducible refine wp_cb ?_ | with_reducible refine wp_cn ?_ | with_reducible refine wp_ct ?_
  | with_reducible refine wpA_nil ?_ | with_reducible refine wpA_cons ?_ | with_reducible refine wp_tup ?_ | with_reducible refine wp_lst ?_ | with_reducible refine wp_op ?_ | with_reducible refine wp_un ?_ | with_reducible refine wp_cb2 ?_ | with_reducible refine wp_if ?_
  | with_reducible refine wp_andV ?_ | with_reducible refine wp_orV ?_ | with_reducible refine wp_notV ?_ | with_reducible refine wp_chain ?_
  | with_reducible refine wpT_B ?_ | with_reducible refine wpT_test ?_ | with_reducible refine wpT_and ?_ | with_reducible refine wpT_or ?_ | with_reducible refine wpT_not ?_ | with_reducible refine wpT_yes ?_
  | refine op2_i (fun _ _ => .bl _) ?_ | refine op2_i (fun _ _ => .int _) ?_
  | refine L2.iteT ?_ | refine L2.iteF ?_ | refine And.intro (sz rfl) ?_
  | refine ⟨_, rfl, ?_⟩)
local macro_rules | `(tactic| walk_at "ws") => `(tactic| repeat walk_at "w")


abbrev s_is_put : Stmt := top 18
abbrev N_is_put : List Str := ["counter", "value"]
theorem sc_is_put : FnScope N_is_put ["counter", "value"] (defScope s_is_put) := ⟨rfl, rfl, rfl, by decide +kernel, rfl, by decide +kernel, by decide +kernel⟩

abbrev s_is_place_by_place : Stmt := top 19
abbrev N_is_place_by_place : List Str := ["counters", "value", "counter", "kind"]
theorem sc_is_place_by_place : FnScope N_is_place_by_place ["counters", "value"] (defScope s_is_place_by_place) := ⟨rfl, rfl, rfl, by decide +kernel, rfl, by decide +kernel, by decide +kernel⟩

abbrev s_is_setting : Stmt := top 20
abbrev N_is_setting : List Str := ["counters", "value"]
theorem sc_is_setting : FnScope N_is_setting ["counters", "value"] (defScope s_is_setting) := ⟨rfl, rfl, rfl, by decide +kernel, rfl, by decide +kernel, by decide +kernel⟩

abbrev s_law_setting : Stmt := top 26
abbrev N_law_setting : List Str := ["_law_pot_here", "_law_counters_here", "_law_kinds", "_law_size"]
theorem sc_law_setting : FnScope N_law_setting ["_law_pot_here", "_law_counters_here"] (defScope s_law_setting) := ⟨rfl, rfl, rfl, by decide +kernel, rfl, by decide +kernel, by decide +kernel⟩

abbrev s_law_odd : Stmt := top 27
abbrev N_law_odd : List Str := ["_law_pot_here", "_law_deep", "_law_some", "_law_inner"]
theorem sc_law_odd : FnScope N_law_odd ["_law_pot_here", "_law_deep"] (defScope s_law_odd) := ⟨rfl, rfl, rfl, by decide +kernel, rfl, by decide +kernel, by decide +kernel⟩

abbrev s_law_is_name : Stmt := top 28
abbrev N_law_is_name : List Str := ["_law_value", "_law_letters", "_law_sign"]
theorem sc_law_is_name : FnScope N_law_is_name ["_law_value"] (defScope s_law_is_name) := ⟨rfl, rfl, rfl, by decide +kernel, rfl, by decide +kernel, by decide +kernel⟩

abbrev s_law_is_counter : Stmt := top 29
abbrev N_law_is_counter : List Str := ["_law_value", "_law_kinds", "_law_size", "_law_one", "_law_other", "_law_kind"]
theorem sc_law_is_counter : FnScope N_law_is_counter ["_law_value"] (defScope s_law_is_counter) := ⟨rfl, rfl, rfl, by decide +kernel, rfl, by decide +kernel, by decide +kernel⟩

abbrev s_law_are_counters : Stmt := top 30
abbrev N_law_are_counters : List Str := ["_law_value", "_law_one"]
theorem sc_law_are_counters : FnScope N_law_are_counters ["_law_value"] (defScope s_law_are_counters) := ⟨rfl, rfl, rfl, by decide +kernel, rfl, by decide +kernel, by decide +kernel⟩

abbrev s_law_is_right_setting : Stmt := top 31
abbrev N_law_is_right_setting : List Str := ["_law_counters_here", "_law_value", "_law_pair", "_law_kind"]
theorem sc_law_is_right_setting : FnScope N_law_is_right_setting ["_law_counters_here", "_law_value"] (defScope s_law_is_right_setting) := ⟨rfl, rfl, rfl, by decide +kernel, rfl, by decide +kernel, by decide +kernel⟩


def CPut : List D → (D → Prop) → Prop := fun ds Φ => ∃ c v, ds = [c, v] ∧ isCounter c = true ∧ okD v = true ∧ Φ (.bl (isPut c v))
theorem CPut.len {ds : List D} {Φ : D → Prop} (h : CPut ds Φ) : ds.length = 2 := by obtain ⟨x, y, rfl, _⟩ := h; rfl
def CPlace : List D → (D → Prop) → Prop := fun ds Φ => ∃ cs v, ds = [.tup cs, v] ∧ cs.all isCounter = true ∧ cs.length ≤ 3 ∧ okD v = true ∧ Φ (.bl (isPlace cs v))
theorem CPlace.len {ds : List D} {Φ : D → Prop} (h : CPlace ds Φ) : ds.length = 2 := by obtain ⟨x, y, rfl, _⟩ := h; rfl
def CSetg : List D → (D → Prop) → Prop := fun ds Φ => ∃ cs v, ds = [.tup cs, v] ∧ isCounters (.tup cs) = true ∧ okD (.tup cs) = true ∧ okD v = true ∧ Φ (.bl (isPlace cs v))
theorem CSetg.len {ds : List D} {Φ : D → Prop} (h : CSetg ds Φ) : ds.length = 2 := by obtain ⟨x, y, rfl, _⟩ := h; rfl
def CMkSet : List D → Nat → (D → Nat → Prop) → Prop := fun ds n Φ => ∃ cs, ds = [.tup cs] ∧ cs.all isCounter = true ∧ cs.length ≤ 3 ∧ fit 3 1300 (.tup cs) = true ∧ n + 3 ≤ potMost ∧ ∀ xs n', n' ≤ n + 3 → xs.length ≤ 3 → xs.all nameOrNon = true → Φ (.tup xs) n'
theorem CMkSet.len {ds : List D} {n : Nat} {Φ : D → Nat → Prop} (h : CMkSet ds n Φ) : ds.length + 1 = 2 := by obtain ⟨x, rfl, _⟩ := h; rfl
def COdd (k : Nat) : List D → Nat → (D → Nat → Prop) → Prop := fun ds n Φ => ∃ d : Nat, (ds = [.int d] ∧ d < k) ∧ n + (2 * d + 1) ≤ potMost ∧ ∀ x n', n' ≤ n + (2 * d + 1) → fit (d + 2) (100 + 30 * d) x = true → Φ x n'
theorem COdd.len {k : Nat} {ds : List D} {n : Nat} {Φ : D → Nat → Prop} (h : COdd k ds n Φ) : ds.length + 1 = 2 := by obtain ⟨x, ⟨rfl, _⟩, _⟩ := h; rfl
def odds : List D := [.non, .bl true, .bl false, .int 0, .int 1, .int 2, .int 999, .int 1000, .int (-1), .str "", .str "x", .str "X", .str "abcdefgh", .str "abcdefghi", .tup [], .lst [], .dct []]
  ++ [.tup [.str "x"], .tup [.str "x", .str "x"], .tup [.str "y", .str "x"], .tup [.tup [.str "x"], .non], .tup [.tup [.str "x"], .bl true], .lst [.str "x"], .str "x y", .tup [.str "x", .int 2]]
theorem odds_fit : ∀ x ∈ odds, fit 2 100 x = true := List.all_eq_true.mp (by decide +kernel)
theorem odd_more {d : Nat} {y x : D} (h : fit (d + 2) (100 + 30 * d) y = true) (hx : x ∈ [D.tup [y], .lst [y], .dct [(.inr "x", y)], .tup [.tup [.str "x"], y]]) : fit (d + 1 + 2) (100 + 30 * (d + 1)) x = true := by
  obtain ⟨h1, h2, h3⟩ := fit_iff.mp h
  simp only [List.mem_cons, List.not_mem_nil, or_false] at hx
  rcases hx with rfl | rfl | rfl | rfl
  · refine fit_tup (a := d + 2) (fun z hz => ?_) (by rw [wtL, wtL]; omega)
    rw [List.mem_singleton] at hz; subst hz; exact ⟨h1, h2⟩
  · refine fit_lst (a := d + 2) (fun z hz => ?_) (by rw [wtL, wtL]; omega)
    rw [List.mem_singleton] at hz; subst hz; exact ⟨h1, h2⟩
  · rw [fit_iff, fineD, fineK, fineK, dp, dpK, dpK, wt, wtK, wtK, h1]
    refine ⟨by decide +kernel, by omega, ?_⟩
    have : keyWt (.inr "x") = 12 := by decide +kernel
    omega
  · have e1 : fineD (.tup [.str "x"]) = true := by decide +kernel
    have e2 : dp (.tup [.str "x"]) = 1 := by decide +kernel
    have e3 : wt (.tup [.str "x"]) = 18 := by decide +kernel
    refine fit_tup (a := d + 2) (fun z hz => ?_) (by rw [wtL, wtL, wtL, e3]; omega)
    simp only [List.mem_cons, List.not_mem_nil, or_false] at hz
    rcases hz with rfl | rfl
    · exact ⟨e1, by omega⟩
    · exact ⟨h1, h2⟩
section
variable {W : Wo} {n : Nat} {Φ : D → Nat → Prop} {i : Int}
theorem WpT.mono {tt : TT} {env : List E} {Φ Ψ : Bool → Nat → Prop} (h : WpT W tt n env Φ) (f : ∀ b m, Φ b m → Ψ b m) : WpT W tt n env Ψ := fun σ stk vs H Q w k => h σ stk vs H Q w fun b m H' h1 w' => k b m H' (f b m h1) w'
theorem op_neg (q : Φ (.int (-i)) n) : Op1 W (rU fun i => .int (-i)) n (.int i) Φ := op1_pure (fun vx H Q h k => by cases h; exact ⟨_, rfl, k⟩) (fun _ _ => .int _) q
end
section
variable {P : Program} {w : World} {K : PySem.W.Frag} {mg : Str → Option Value} {base : Heap}
theorem ok_is_put (T : Txt1 mg) (Dd : DefIn K mg "is_put" s_is_put ["counter", "value"]) : Has P w K mg base 1 "is_put" ["counter", "value"] (spD K CPut) := by
  refine has_D Dd sc_is_put (fun _ _ h => h.len) fun f cdv B out t H E gu hr => ⟨_, (pss_one (ps_ret (pe_or (pe_cmpR op_isN (pv 1) pe_non (nomark _)) (pe_one (pe_and (pe_callB (k_isi (K := K) rfl) (by rfl) T.n_isinstance (by decide +kernel) (pa_cons (pv 1) (pa_cons (pe_bltn (v := .ty "str") (by rfl) T.n_str (by decide +kernel) rfl) pa_nil))) (pe_one (pe_cmpR (k_in (K := K) rfl) (pv 1) (pe_ix (k_ixT (K := K) rfl) (pv 0) pe_int (fun _ _ => rfl)) (by rfl)))))))), fun W ds Φ hK hC => ?_⟩
  subst hK
  obtain ⟨c, v, rfl, hc, ok, hΦ⟩ := hC
  obtain ⟨ks, s, rfl, h1, h2⟩ := counter_tup hc
  obtain ⟨g1, _⟩ := names_ok h1
  walk_at "ws"
  refine op_is ⟨_, rfl, ?_⟩
  unfold isPut at hΦ
  refine if_b (fun h => ?_) (fun h => ?_)
  · rw [h] at hΦ; exact hΦ
  · rw [h, Bool.false_or] at hΦ
    walk_at "ws"
    refine op_isi (ok_notTy ok) (by decide) ⟨_, rfl, ?_⟩
    rw [inst_str]
    cases v with
    | str z =>
      walk_at "ws"
      refine op_ixT (ix0 _ _) ?_
      exact op_inT rfl g1 hΦ
    | _ => exact hΦ
theorem ok_is_place_by_place (T : Txt1 mg) (Dd : DefIn K mg "is_place_by_place" s_is_place_by_place ["counters", "value"]) (h_is_put : Has P w K mg base 1 "is_put" ["counter", "value"] (spD K CPut)) :
    Has P w K mg base 2 "is_place_by_place" ["counters", "value"] (spD K CPlace) := by
  refine has_D Dd sc_is_place_by_place (fun _ _ h => h.len) fun f cdv B out t H E gu hr => ⟨_, (pss_cons (ps_if (PW.pt (pw_or (pt_not (pt_val (pe_callB (k_isi (K := K) rfl) (by rfl) T.n_isinstance (by decide +kernel) (pa_cons (pv 1) (pa_cons (pe_bltn (v := .ty "tuple") (by rfl) T.n_tuple (by decide +kernel) rfl) pa_nil))))) (pw_or1 (pt_cmpR op_ne (pe_callB (k_len (K := K) rfl) (by rfl) T.n_len PySem.boot_len (pa_cons (pv 1) pa_nil)) (pe_callB (k_len (K := K) rfl) (by rfl) T.n_len PySem.boot_len (pa_cons (pv 0) pa_nil)) (nomark _))))) (pss_one (ps_ret pe_bl)) pss_nil)
      (pss_one (ps_ret (pe_callB (k_all (K := K) rfl rfl) (by rfl) T.n_all (by decide +kernel) (pa_cons (pe_lc (own := [("counter", 2), ("kind", 3)]) rfl sc_is_place_by_place.nd (k_zip (K := K) rfl (by rfl) T.n_zip (pa_cons (pv 0) (pa_cons (pv 1) pa_nil))) (blkOk_by (own := [("counter", 2), ("kind", 3)]) (N := N_is_place_by_place) (sc := defScope s_is_place_by_place) (by decide +kernel)) (fun _ _ _ _ _ => (k_tgt (K := K) (n := 2) rfl rfl (pgs_cons (pg_name (i := 2) sc_is_place_by_place.nd rfl (Or.inl rfl)) (pgs_cons (pg_name (i := 3) sc_is_place_by_place.nd rfl (Or.inl rfl)) pgs_nil)))) (fun _ _ _ _ _ => pts_nil) (fun _ _ _ _ _ => (pe_has h_is_put gu (hr.mono (by decide)) (by rfl) (pa_cons (pv 2) (pa_cons (pv 3) pa_nil))))) pa_nil))))), fun W ds Φ hK hC => ?_⟩
  subst hK
  obtain ⟨cs, v, rfl, hc, hl, ok, hΦ⟩ := hC
  walk_at "ws"
  refine op_isi (ok_notTy ok) (by decide) ⟨_, rfl, ?_⟩
  rw [inst_tup]
  cases v with
  | tup xs =>
    obtain ⟨hxl, hx⟩ := ok_tup ok
    walk_at "ws"
    refine op_len_t ?_
    walk_at "ws"
    refine op_len_t ?_
    refine op_nes rfl ⟨_, rfl, ?_⟩
    have e : eqD (.int (xs.length : Nat)) (.int (cs.length : Nat)) = decide (xs.length = cs.length) := by
      rw [Bool.eq_iff_iff]; simp [eqD]; omega
    rw [e]
    have e2 : isPlace cs (.tup xs) = (decide (xs.length = cs.length) && (cs.zip xs).all fun p => isPut p.1 p.2) := rfl
    rw [e2] at hΦ
    refine if_b (fun h => ?_) (fun h => ?_)
    · rw [Bool.not_eq_true'] at h
      rw [h] at hΦ
      walk_at "ws"
      exact hΦ
    · rw [Bool.not_eq_false'] at h
      rw [h, Bool.true_and] at hΦ
      walk_at "ws"
      refine wp_map (L := [2, 3]) (f := fun d => match d with | .tup [a, b] => .bl (isPut a b) | _ => .non) (by simp) (wi_zipT (wpA_cons (wp_var rfl (wpA_cons (wp_var rfl (wpA_nil ⟨_, _, rfl, ?_, ?_, ?_⟩))))))
      · simp [zipD]; omega
      · intro d hd
        obtain ⟨⟨a, b⟩, hab, rfl⟩ := List.mem_map.mp hd
        have hm := List.of_mem_zip hab
        refine wg_tup rfl (wgs_cons (wg_name (wgs_cons (wg_name (wgs_nil ⟨rfl, ?_⟩)))))
        refine wp_call ?_
        walk_at "ws"
        exact ⟨_, _, rfl, List.all_eq_true.mp hc a hm.1, hx b hm.2, rfl, rfl⟩
      · walk_at "ws"
        have e3 : List.map (fun d => match d with | .tup [a, b] => .bl (isPut a b) | _ => .non) (zipD cs xs) = ((cs.zip xs).map fun p => isPut p.1 p.2).map D.bl := by
          rw [zipD, List.map_map, List.map_map]; rfl
        rw [e3]
        refine op_all ?_
        rw [List.all_map]
        exact hΦ
  | _ => walk_at "ws"; exact hΦ
theorem ok_is_setting (T : Txt1 mg) (Dd : DefIn K mg "is_setting" s_is_setting ["counters", "value"]) (h_check_counters : Has P w K mg base 5 "check_counters" ["counters"] (spD K (C1 (fun x => okD x && isCounters x) fun _ => .non))) (h_is_place_by_place : Has P w K mg base 2 "is_place_by_place" ["counters", "value"] (spD K CPlace)) :
    Has P w K mg base 6 "is_setting" ["counters", "value"] (spD K CSetg) := by
  refine has_D Dd sc_is_setting (fun _ _ h => h.len) fun f cdv B out t H E gu hr => ⟨_, (pss_cons (ps_expr (pe_has h_check_counters gu (hr.mono (by decide)) (by rfl) (pa_cons (pv 0) pa_nil)))
      (pss_one (ps_ret (pe_has h_is_place_by_place gu (hr.mono (by decide)) (by rfl) (pa_cons (pv 0) (pa_cons (pv 1) pa_nil)))))), fun W ds Φ hK hC => ?_⟩
  subst hK
  obtain ⟨cs, v, rfl, h1, h2, ok, hΦ⟩ := hC
  have h1' := h1
  rw [isCounters, Bool.and_eq_true, Bool.and_eq_true, decide_eq_true_eq, decide_eq_true_eq] at h1'
  walk_at "ws"
  refine wp_call ?_
  walk_at "ws"
  refine ⟨by show (okD _ && isCounters _) = true; rw [h1, h2]; rfl, ?_⟩
  walk_at "ws"
  refine wp_call ?_
  walk_at "ws"
  exact ⟨_, _, rfl, h1'.2, h1'.1.2, ok, hΦ⟩
theorem ok_law_setting (T : Txt2 mg) (Dd : DefIn K mg "_law_setting" s_law_setting ["_law_pot_here", "_law_counters_here"]) (h_law_of : Has P w K mg base 2 "_law_of" ["_law_pot_here", "_law_some"] (spP K COf)) :
    Has P w K mg base 3 "_law_setting" ["_law_pot_here", "_law_counters_here"] (spP K CMkSet) := by
  refine has_P Dd sc_law_setting (fun _ _ _ h => h.len) fun f cdv B out t H E gu hr => ⟨_, (pss_one (ps_ret (pe_callTy (k_tuple (K := K) rfl) (by rfl) T.n_tuple (by decide +kernel) (pa_cons (pe_lc (own := [("_law_kinds", 2), ("_law_size", 3)]) rfl sc_law_setting.nd (k_tup (K := K) rfl (pv 1)) (blkOk_by (own := [("_law_kinds", 2), ("_law_size", 3)]) (N := N_law_setting) (sc := defScope s_law_setting) (by decide +kernel)) (fun _ _ _ _ _ => (k_tgt (K := K) (n := 2) rfl rfl (pgs_cons (pg_name (i := 2) sc_law_setting.nd rfl (Or.inl rfl)) (pgs_cons (pg_name (i := 3) sc_law_setting.nd rfl (Or.inl rfl)) pgs_nil)))) (fun _ _ _ _ _ => pts_nil) (fun _ _ _ _ _ => (pe_has h_law_of gu (hr.mono (by decide)) (by rfl) (pa_cons (pv 0) (pa_cons (pe_op op_cat (pe_callTy (k_list (K := K) rfl) (by rfl) T.n_list (by decide +kernel) (pa_cons (pv 2) pa_nil)) (pe_lst (pa_cons pe_non pa_nil))) pa_nil))))) pa_nil)))), fun W n ds Φ hK hC => ?_⟩
  subst hK
  obtain ⟨cs, rfl, hc, hl, hok, hn, hΦ⟩ := hC
  walk_at "ws"
  refine wp_lc (L := [2, 3]) (by simp) (wi_tup (wp_var rfl ⟨cs, rfl, fun j acc m => acc.length = j ∧ acc.all nameOrNon = true ∧ m = n + j, ⟨rfl, rfl, rfl⟩, by rw [sizeLine_eq]; omega, ?_, ?_⟩))
  · rintro j d acc m hd ⟨ha, hb, rfl⟩
    have hj : j < cs.length := (List.getElem?_eq_some_iff.mp hd).1
    have hd2 := List.mem_of_getElem? hd
    obtain ⟨ks, s, rfl, h1, h2⟩ := counter_tup (List.all_eq_true.mp hc d hd2)
    have hkl : ks.length ≤ 650 := by
      have w1 := (tup_fit hok).2
      have w2 := wtL_sub (List.singleton_sublist.mpr hd2)
      rw [wtL, wtL, wt, wtL, wt] at w2
      have w3 := wtL_len ks
      omega
    refine wg_tup rfl (wgs_cons (wg_name (wgs_cons (wg_name (wgs_nil ?_)))))
    walk_at "ws"
    refine wp_callP rfl ?_
    walk_at "ws"
    refine op_listT ?_
    walk_at "ws"
    refine op_cL (by rw [sizeLine_eq]; simp; omega) ?_
    walk_at "ws"
    refine ⟨by simp, by simp; omega, by omega, fun x hx => ⟨by simp [ha], ?_, by omega⟩⟩
    rw [List.all_append, hb, List.all_cons]
    rcases List.mem_append.mp hx with z | z
    · have := List.all_eq_true.mp h1 x z
      unfold nameOrNon
      rw [this, Bool.or_true]; rfl
    · rw [List.mem_singleton] at z; subst z; rfl
  · rintro acc m ⟨ha, hb, rfl⟩ _
    walk_at "ws"
    exact op_tupleL (hΦ acc (n + cs.length) (by omega) (by omega) hb)
theorem ok_law_odd0 (Dd : DefIn K mg "_law_odd" s_law_odd ["_law_pot_here", "_law_deep"]) : Has P w K mg base 3 "_law_odd" ["_law_pot_here", "_law_deep"] (spP K (COdd 0)) := by
  refine has_sp Dd sc_law_odd (fun vs H Q E h => ?_) fun f cdv B out t H vs Q E gu hr h => ?_ <;>
  · obtain ⟨M, p, us, n, ds, Φ, rfl, _, _, _, r, ⟨d, ⟨_, h⟩, _⟩, _⟩ := h
    exact absurd h (Nat.not_lt_zero _)
theorem law_odd_step {k : Nat} (T : Txt2 mg) (Dd : DefIn K mg "_law_odd" s_law_odd ["_law_pot_here", "_law_deep"]) (h_law_take : Has P w K mg base 1 "_law_take" ["_law_pot_here", "_law_many"] (spP K CTake)) (h_law_of : Has P w K mg base 2 "_law_of" ["_law_pot_here", "_law_some"] (spP K COf))
    (h_law_odd : Has P w K mg base (3 + k) "_law_odd" ["_law_pot_here", "_law_deep"] (spP K (COdd k))) : Has P w K mg base (3 + k + 1) "_law_odd" ["_law_pot_here", "_law_deep"] (spP K (COdd (k + 1))) := by
  refine has_P Dd sc_law_odd (fun _ _ _ h => h.len) fun f cdv B out t H E gu hr => ⟨_, (pss_cons (ps_if (PW.pt (pw_and (pt_cmpR op_gt (pv 1) pe_int (nomark _)) (pw_and1 (pt_cmpR op_eq (pe_has h_law_take gu (hr.mono (by omega)) (by rfl) (pa_cons (pv 0) (pa_cons pe_int pa_nil))) pe_int (nomark _))))) (pss_cons (ps_set (i := 3) sc_law_odd.nd rfl (Or.inl rfl) (pe_has h_law_odd gu (hr.mono (by omega)) (by rfl) (pa_cons (pv 0) (pa_cons (pe_op op_sub (pv 1) pe_int) pa_nil))))
      (pss_one (ps_ret (pe_has h_law_of gu (hr.mono (by omega)) (by rfl) (pa_cons (pv 0) (pa_cons (pe_lst (pa_cons (pe_tup (pa_cons (pv 3) pa_nil)) (pa_cons (pe_lst (pa_cons (pv 3) pa_nil)) (pa_cons (pe_disp (pps_cons pe_str (pv 3) pps_nil) (by rfl) (by rfl) (fun z => by cases z) (by decide)) (pa_cons (pe_tup (pa_cons (pe_tup (pa_cons pe_str pa_nil)) (pa_cons (pv 3) pa_nil))) pa_nil))))) pa_nil)))))) pss_nil)
      (pss_cons (ps_set (i := 2) sc_law_odd.nd rfl (Or.inl rfl) (pe_lst (pa_cons pe_non (pa_cons pe_bl (pa_cons pe_bl (pa_cons pe_int (pa_cons pe_int (pa_cons pe_int (pa_cons pe_int (pa_cons pe_int (pa_cons (pe_un un_neg pe_int) (pa_cons pe_str (pa_cons pe_str (pa_cons pe_str (pa_cons pe_str (pa_cons pe_str (pa_cons (pe_tup pa_nil) (pa_cons (pe_lst pa_nil) (pa_cons pe_dnewK pa_nil)))))))))))))))))))
      (pss_one (ps_ret (pe_has h_law_of gu (hr.mono (by omega)) (by rfl) (pa_cons (pv 0) (pa_cons (pe_op op_cat (pv 2) (pe_lst (pa_cons (pe_tup (pa_cons pe_str pa_nil)) (pa_cons (pe_tup (pa_cons pe_str (pa_cons pe_str pa_nil))) (pa_cons (pe_tup (pa_cons pe_str (pa_cons pe_str pa_nil))) (pa_cons (pe_tup (pa_cons (pe_tup (pa_cons pe_str pa_nil)) (pa_cons pe_non pa_nil))) (pa_cons (pe_tup (pa_cons (pe_tup (pa_cons pe_str pa_nil)) (pa_cons pe_bl pa_nil))) (pa_cons (pe_lst (pa_cons pe_str pa_nil)) (pa_cons pe_str (pa_cons (pe_tup (pa_cons pe_str (pa_cons pe_int pa_nil))) pa_nil)))))))))) pa_nil))))))), fun W n ds Φ hK hC => ?_⟩
  subst hK
  obtain ⟨d, ⟨rfl, hd⟩, hn, hΦ⟩ := hC
  refine ws_seq (ws_if ?_)
  refine WpT.mono (Φ := fun b m => m ≤ n + 1 ∧ (b = true → 0 < d ∧ m = n + 1) ∧ (d = 0 → m = n)) ?_ ?_
  · walk_at "ws"
    refine if_b (fun h => ?_) (fun h => ?_)
    · have h' : 0 < d := by have := of_decide_eq_true h; omega
      walk_at "ws"
      refine wp_callP rfl ?_
      walk_at "ws"
      refine ⟨by decide, by decide, by omega, fun r r0 r1 => ?_⟩
      walk_at "ws"
      exact op_eqs rfl ⟨_, rfl, Nat.le_refl _, fun _ => ⟨h', rfl⟩, fun z => by omega⟩
    · exact ⟨by omega, (fun z => nomatch z), fun _ => rfl⟩
  · rintro b m ⟨h1, h2, h3⟩
    cases b with
    | true =>
      obtain ⟨h4, rfl⟩ := h2 rfl
      obtain ⟨e, rfl⟩ : ∃ e, d = e + 1 := ⟨d - 1, by omega⟩
      walk_at "ws"
      refine wp_callP rfl ?_
      walk_at "ws"
      refine ⟨e, ⟨by rw [show ((e + 1 : Nat) : Int) - 1 = ((e : Nat) : Int) by omega], by omega⟩, by omega, fun y n' hn' hy => ?_⟩
      walk_at "ws"
      refine wp_callP rfl ?_
      walk_at "ws"
      refine wp_disp1v rfl ?_
      walk_at "ws"
      exact ⟨by simp, by simp, by omega, fun x hx => hΦ x _ (by omega) (odd_more hy hx)⟩
    | false =>
      walk_at "ws"
      refine op_neg ?_
      walk_at "ws"
      refine wp_dnew ?_
      walk_at "ws"
      refine wp_callP rfl ?_
      walk_at "ws"
      refine op_cL (sz rfl) ?_
      walk_at "ws"
      refine ⟨by simp, by decide, by omega, fun x hx => hΦ x _ (by omega) (fit.mono (odds_fit x hx) (by omega) (by omega))⟩
theorem ok_law_odd (T : Txt2 mg) (Dd : DefIn K mg "_law_odd" s_law_odd ["_law_pot_here", "_law_deep"]) (h_law_take : Has P w K mg base 1 "_law_take" ["_law_pot_here", "_law_many"] (spP K CTake)) (h_law_of : Has P w K mg base 2 "_law_of" ["_law_pot_here", "_law_some"] (spP K COf)) :
    Has P w K mg base 24 "_law_odd" ["_law_pot_here", "_law_deep"] (spP K (COdd 21)) := by
  have h : ∀ k, Has P w K mg base (3 + k) "_law_odd" ["_law_pot_here", "_law_deep"] (spP K (COdd k)) := fun k => by
    induction k with
    | zero => exact ok_law_odd0 Dd
    | succ k ih => exact law_odd_step T Dd h_law_take h_law_of ih
  exact h 21
def isBl : D → Bool
  | .bl _ => true
  | _ => false
theorem inst_int2 (x : D) : instD x "int" = (isInt x || isBl x) := by cases x <;> rfl
theorem inst_bool2 (x : D) : instD x "bool" = isBl x := by cases x <;> rfl
theorem ok_law_is_name (T : Txt2 mg) (Dd : DefIn K mg "_law_is_name" s_law_is_name ["_law_value"]) : Has P w K mg base 1 "_law_is_name" ["_law_value"] (spD K (C1 okD fun x => .bl (isName x))) := by
  refine has_D Dd sc_law_is_name (fun _ _ h => h.len) fun f cdv B out t H E gu hr => ⟨_, (pss_cons (ps_set (i := 1) sc_law_is_name.nd rfl (Or.inr rfl) pe_str)
      (pss_one (ps_ret (pe_and (pe_callB (k_isi (K := K) rfl) (by rfl) T.n_isinstance (by decide +kernel) (pa_cons (pv 0) (pa_cons (pe_bltn (v := .ty "str") (by rfl) T.n_str (by decide +kernel) rfl) pa_nil))) (pe_and (pe_chain op_le op_le pe_int (pe_callB (k_len (K := K) rfl) (by rfl) T.n_len PySem.boot_len (pa_cons (pv 0) pa_nil)) pe_int) (pe_one (pe_callB (k_all (K := K) rfl rfl) (by rfl) T.n_all (by decide +kernel) (pa_cons (pe_lc (own := [("_law_sign", 2)]) rfl sc_law_is_name.nd (pi_str (pv 0)) (blkOk_by (own := [("_law_sign", 2)]) (N := N_law_is_name) (sc := defScope s_law_is_name) (by decide +kernel)) (fun _ _ _ _ _ => (pg_name (i := 2) sc_law_is_name.nd rfl (Or.inl rfl))) (fun _ _ _ _ _ => pts_nil) (fun _ _ _ _ _ => (pe_cmpR op_in_sign (pv 2) (pv 1) (by rfl)))) pa_nil)))))))), fun W ds Φ hK hC => ?_⟩
  subst hK
  obtain ⟨x, rfl, ok, hΦ⟩ := hC
  dsimp only at hΦ
  walk_at "ws"
  refine op_isi (ok_notTy ok) (by decide) ⟨_, rfl, ?_⟩
  rw [inst_str]
  cases x with
  | str z =>
    have hz : z.length ≤ sizeLine := by rw [okD, decide_eq_true_eq] at ok; exact ok
    refine L2.iteT (wp_andV (wp_is (.bl (decide (1 ≤ z.length) && decide (z.length ≤ 8))) ?_ ⟨_, rfl, ?_⟩))
    · walk_at "ws"
      refine op_len_s hz ?_
      walk_at "ws"
      refine if_b (fun h => ?_) (fun h => ?_)
      · walk_at "ws"
        refine ⟨rfl, ?_⟩
        have h' : 1 ≤ z.length := by have := of_decide_eq_true h; omega
        have h2 : ((z.length : Int) ≤ 8) ↔ z.length ≤ 8 := by omega
        simp [h', h2]
      · refine ⟨rfl, ?_⟩
        have h' : ¬ 1 ≤ z.length := by have := of_decide_eq_false h; omega
        simp [h']
    · rw [isName] at hΦ
      refine if_b (fun h => ?_) (fun h => ?_)
      · rw [h, Bool.true_and] at hΦ
        walk_at "ws"
        refine wp_map (L := [2]) (f := fun d => .bl (decide ((strOf d).cps.toList.head? ∈ letters.cps.toList.map some))) (by simp) (wi_str (wp_var rfl ⟨z, rfl, ?_, ?_, ?_⟩))
        · simpa [signs, Str.length] using hz
        · intro d hd
          obtain ⟨c, hc, rfl⟩ := List.mem_map.mp hd
          walk_at "ws"
          refine ⟨rfl, ?_⟩
          walk_at "ws"
          refine op_sign ⟨rfl, ?_⟩
          simp [strOf, letters]
        · walk_at "ws"
          rw [all_map]
          refine op_all ?_
          have e : (List.map (fun d => decide ((strOf d).cps.toList.head? ∈ letters.cps.toList.map some)) (signs z)).all id = (z.cps.toList.all fun c => decide (c ∈ letters.cps.toList)) := by
            rw [signs, List.map_map, List.all_map]
            congr 1
            funext c
            simp [strOf]
          rw [e]
          exact hΦ
      · rw [h, Bool.false_and] at hΦ
        exact hΦ
  | _ => exact hΦ
theorem ok_law_is_counter (T : Txt2 mg) (Dd : DefIn K mg "_law_is_counter" s_law_is_counter ["_law_value"]) (h_law_is_name : Has P w K mg base 1 "_law_is_name" ["_law_value"] (spD K (C1 okD fun x => .bl (isName x)))) :
    Has P w K mg base 2 "_law_is_counter" ["_law_value"] (spD K (C1 okD fun x => .bl (isCounter x))) := by
  refine has_D Dd sc_law_is_counter (fun _ _ h => h.len) fun f cdv B out t H E gu hr => ⟨_, (pss_cons (ps_if (PW.pt (pw_or (pt_not (pt_val (pe_callB (k_isi (K := K) rfl) (by rfl) T.n_isinstance (by decide +kernel) (pa_cons (pv 0) (pa_cons (pe_bltn (v := .ty "tuple") (by rfl) T.n_tuple (by decide +kernel) rfl) pa_nil))))) (pw_or (pt_cmpR op_ne (pe_callB (k_len (K := K) rfl) (by rfl) T.n_len PySem.boot_len (pa_cons (pv 0) pa_nil)) pe_int (nomark _)) (pw_or (pt_not (pt_val (pe_callB (k_isi (K := K) rfl) (by rfl) T.n_isinstance (by decide +kernel) (pa_cons (pe_ix (k_ixT (K := K) rfl) (pv 0) pe_int (fun _ _ => rfl)) (pa_cons (pe_bltn (v := .ty "tuple") (by rfl) T.n_tuple (by decide +kernel) rfl) pa_nil))))) (pw_or1 (pt_cmpR (k_eqE (K := K) rfl hr.units) (pe_ix (k_ixT (K := K) rfl) (pv 0) pe_int (fun _ _ => rfl)) (pe_tup pa_nil) (nomark _))))))) (pss_one (ps_ret pe_bl)) pss_nil)
      (pss_cons (ps_asg (pv 0) (k_tgt (K := K) (n := 2) rfl rfl (pgs_cons (pg_name (i := 1) sc_law_is_counter.nd rfl (Or.inl rfl)) (pgs_cons (pg_name (i := 2) sc_law_is_counter.nd rfl (Or.inl rfl)) pgs_nil))))
      (pss_cons (ps_if (PW.pt (pw_or (pt_not (pt_val (pe_callB (k_all (K := K) rfl rfl) (by rfl) T.n_all (by decide +kernel) (pa_cons (pe_lc (own := [("_law_kind", 5)]) rfl sc_law_is_counter.nd (k_tup (K := K) rfl (pv 1)) (blkOk_by (own := [("_law_kind", 5)]) (N := N_law_is_counter) (sc := defScope s_law_is_counter) (by decide +kernel)) (fun _ _ _ _ _ => (pg_name (i := 5) sc_law_is_counter.nd rfl (Or.inl rfl))) (fun _ _ _ _ _ => pts_nil) (fun _ _ _ _ _ => (pe_has h_law_is_name gu (hr.mono (by decide)) (by rfl) (pa_cons (pv 5) pa_nil)))) pa_nil)))) (pw_or1 (pt_val (pe_callB (k_any (K := K) rfl rfl) (by rfl) T.n_any (by decide +kernel) (pa_cons (pe_lc (own := [("_law_one", 3), ("_law_other", 4)]) rfl sc_law_is_counter.nd (k_zip (K := K) rfl (by rfl) T.n_zip (pa_cons (pv 1) (pa_cons (pe_slice (k_slT (K := K) rfl) (pv 1) (po_some pe_int) po_none) pa_nil))) (blkOk_by (own := [("_law_one", 3), ("_law_other", 4)]) (N := N_law_is_counter) (sc := defScope s_law_is_counter) (by decide +kernel)) (fun _ _ _ _ _ => (k_tgt (K := K) (n := 2) rfl rfl (pgs_cons (pg_name (i := 3) sc_law_is_counter.nd rfl (Or.inl rfl)) (pgs_cons (pg_name (i := 4) sc_law_is_counter.nd rfl (Or.inl rfl)) pgs_nil)))) (fun _ _ _ _ _ => pts_nil) (fun _ _ _ _ _ => (pe_cmpR op_ge_str (pv 3) (pv 4) (nomark _)))) pa_nil)))))) (pss_one (ps_ret pe_bl)) pss_nil)
      (pss_one (ps_ret (pe_or (pe_cmpR op_isN (pv 2) pe_non (nomark _)) (pe_one (pe_and (pe_callB (k_isi (K := K) rfl) (by rfl) T.n_isinstance (by decide +kernel) (pa_cons (pv 2) (pa_cons (pe_bltn (v := .ty "int") (by rfl) T.n_int (by decide +kernel) rfl) pa_nil))) (pe_and (pe_not (pe_callB (k_isi (K := K) rfl) (by rfl) T.n_isinstance (by decide +kernel) (pa_cons (pv 2) (pa_cons (pe_bltn (v := .ty "bool") (by rfl) T.n_bool (by decide +kernel) rfl) pa_nil)))) (pe_one (pe_chain op_le op_le pe_int (pv 2) pe_int))))))))))), fun W ds Φ hK hC => ?_⟩
  subst hK
  obtain ⟨x, rfl, ok, hΦ⟩ := hC
  dsimp only at hΦ
  walk_at "ws"
  refine op_isi (ok_notTy ok) (by decide) ⟨_, rfl, ?_⟩
  rw [inst_tup]
  cases x with
  | tup xs =>
    obtain ⟨hl, hx⟩ := ok_tup ok
    walk_at "ws"
    refine op_len_t ?_
    walk_at "ws"
    refine op_nes rfl ⟨_, rfl, ?_⟩
    match xs, hΦ, hx with
    | [a, b], hΦ, hx =>
      have e1 : isCounter (.tup [a, b]) = (areKinds a && notEmp a && isSize b) := rfl
      rw [e1] at hΦ
      have oka := hx a (by simp)
      have okb := hx b (by simp)
      walk_at "ws"
      refine op_ixT (ix0 _ _) ?_
      walk_at "ws"
      refine op_isi (ok_notTy oka) (by decide) ⟨_, rfl, ?_⟩
      rw [inst_tup]
      cases a with
      | tup ks =>
        obtain ⟨kl, kx⟩ := ok_tup oka
        walk_at "ws"
        refine op_ixT (ix0 _ _) ?_
        walk_at "ws"
        refine op_eqE ⟨_, rfl, ?_⟩
        cases hks : ks with
        | nil => subst hks; walk_at "ws"; exact hΦ
        | cons k0 ks0 =>
          rw [← hks]
          have e2 : ks.isEmpty = false := by rw [hks]; rfl
          have e3 : notEmp (.tup ks) = true := by rw [hks]; rfl
          rw [e2]
          rw [e3, Bool.and_true] at hΦ
          walk_at "ws"
          refine ws_asg (L := [1, 2]) (wp_var rfl (wg_tup rfl (wgs_cons (wg_name (wgs_cons (wg_name (wgs_nil ?_)))))))
          walk_at "ws"
          refine wp_map (L := [5]) (f := fun d => .bl (isName d)) (by simp) (wi_tup (wp_var rfl ⟨ks, rfl, kl, fun d hd => ?_, ?_⟩))
          · walk_at "ws"
            refine ⟨rfl, wp_call ?_⟩
            walk_at "ws"
            exact ⟨kx d hd, rfl, rfl⟩
          · walk_at "ws"
            rw [all_map]
            refine op_all ⟨_, rfl, ?_⟩
            rw [List.all_map]
            have e4 : ks.all (id ∘ fun x => isName x) = ks.all isName := rfl
            rw [e4]
            have e5 : areKinds (.tup ks) = (ks.all isName && ascS (ks.map strOf)) := rfl
            rw [e5] at hΦ
            refine if_b (fun h => ?_) (fun h => ?_)
            · rw [Bool.not_eq_true'] at h
              rw [h] at hΦ
              walk_at "ws"
              exact hΦ
            · rw [Bool.not_eq_false'] at h
              rw [h, Bool.true_and] at hΦ
              have es := names_strs h
              generalize hss : ks.map strOf = ss at *
              clear hks e2 e3 e4 e5 e1
              subst es
              have hss2 : ss.length ≤ sizeLine := by simpa using kl
              walk_at "ws"
              refine wp_map (L := [3, 4]) (f := fun d => match d with | .tup [a, b] => .bl (!ltS (strOf a) (strOf b)) | _ => .non) (by simp) (wi_zipT (wpA_cons (wp_var rfl (wpA_cons (wp_slT (wp_var rfl ⟨_, rfl, wpO_some (wp_ci ⟨_, rfl, wpO_none (wpA_nil ⟨_, _, rfl, ?_, ?_, ?_⟩)⟩)⟩))))))
              · simp [zipD]; omega
              · intro d hd
                obtain ⟨⟨a, b⟩, hab, rfl⟩ := List.mem_map.mp hd
                have h1 := List.of_mem_zip hab
                obtain ⟨s1, _, rfl⟩ := List.mem_map.mp h1.1
                obtain ⟨s2, _, e2⟩ := List.mem_map.mp (List.mem_of_mem_drop (List.mem_of_mem_take h1.2))
                subst e2
                refine wg_tup rfl (wgs_cons (wg_name (wgs_cons (wg_name (wgs_nil ⟨rfl, ?_⟩)))))
                walk_at "ws"
                exact op_ges ⟨rfl, rfl⟩
              · walk_at "ws"
                have e : List.map (fun d => match d with | .tup [a, b] => .bl (!ltS (strOf a) (strOf b)) | _ => .non) (zipD (ss.map D.str) (cutD (ss.map D.str) (some 1) none)) = ((ss.zip (ss.drop 1)).map fun p => !ltS p.1 p.2).map D.bl := by
                  rw [cut_tail, ← List.map_drop, zipD, List.map_map, List.zip_map, List.map_map, List.map_map]
                  rfl
                rw [e]
                refine op_any ⟨_, rfl, ?_⟩
                rw [List.any_map]
                have e2 : (ss.zip (ss.drop 1)).any (id ∘ fun p => !ltS p.1 p.2) = !ascS ss := any_ge ss
                rw [e2]
                refine if_b (fun h => ?_) (fun h => ?_)
                · rw [Bool.not_eq_true'] at h
                  rw [h] at hΦ
                  walk_at "ws"
                  exact hΦ
                · rw [Bool.not_eq_false'] at h
                  rw [h, Bool.true_and] at hΦ
                  walk_at "ws"
                  refine op_is ⟨_, rfl, ?_⟩
                  cases b with
                  | non => exact hΦ
                  | int i =>
                    walk_at "ws"
                    refine op_isi (ok_notTy okb) (by decide) ⟨_, rfl, ?_⟩
                    rw [inst_int2]
                    walk_at "ws"
                    refine op_isi (ok_notTy okb) (by decide) ⟨_, rfl, _, rfl, ?_⟩
                    rw [inst_bool2]
                    rw [isSize] at hΦ
                    walk_at "ws"
                    refine if_b (fun h => ?_) (fun h => ?_)
                    · rw [h, Bool.true_and] at hΦ; walk_at "ws"; exact hΦ
                    · rw [h, Bool.false_and] at hΦ; exact hΦ
                  | bl c =>
                    walk_at "ws"
                    refine op_isi (ok_notTy okb) (by decide) ⟨_, rfl, ?_⟩
                    rw [inst_int2]
                    walk_at "ws"
                    refine op_isi (ok_notTy okb) (by decide) ⟨_, rfl, _, rfl, ?_⟩
                    rw [inst_bool2]
                    exact hΦ
                  | _ =>
                    walk_at "ws"
                    refine op_isi (ok_notTy okb) (by decide) ⟨_, rfl, ?_⟩
                    rw [inst_int2]
                    exact hΦ
      | _ => walk_at "ws"; exact hΦ
    | [], hΦ, hx => walk_at "ws"; exact hΦ
    | [a], hΦ, hx => walk_at "ws"; exact hΦ
    | a :: b :: c :: l, hΦ, hx =>
      have e : eqD (.int ((a :: b :: c :: l).length : Nat)) (.int 2) = false := by
        simp [eqD]; omega
      rw [e]
      walk_at "ws"
      exact hΦ
  | _ => walk_at "ws"; exact hΦ
theorem ok_law_are_counters (T : Txt2 mg) (Dd : DefIn K mg "_law_are_counters" s_law_are_counters ["_law_value"]) (h_law_is_counter : Has P w K mg base 2 "_law_is_counter" ["_law_value"] (spD K (C1 okD fun x => .bl (isCounter x)))) :
    Has P w K mg base 3 "_law_are_counters" ["_law_value"] (spD K (C1 okD fun x => .bl (isCounters x))) := by
  refine has_D Dd sc_law_are_counters (fun _ _ h => h.len) fun f cdv B out t H E gu hr => ⟨_, (pss_one (ps_ret (pe_and (pe_callB (k_isi (K := K) rfl) (by rfl) T.n_isinstance (by decide +kernel) (pa_cons (pv 0) (pa_cons (pe_bltn (v := .ty "tuple") (by rfl) T.n_tuple (by decide +kernel) rfl) pa_nil))) (pe_and (pe_chain op_le op_le pe_int (pe_callB (k_len (K := K) rfl) (by rfl) T.n_len PySem.boot_len (pa_cons (pv 0) pa_nil)) pe_int) (pe_one (pe_callB (k_all (K := K) rfl rfl) (by rfl) T.n_all (by decide +kernel) (pa_cons (pe_lc (own := [("_law_one", 1)]) rfl sc_law_are_counters.nd (k_tup (K := K) rfl (pv 0)) (blkOk_by (own := [("_law_one", 1)]) (N := N_law_are_counters) (sc := defScope s_law_are_counters) (by decide +kernel)) (fun _ _ _ _ _ => (pg_name (i := 1) sc_law_are_counters.nd rfl (Or.inl rfl))) (fun _ _ _ _ _ => pts_nil) (fun _ _ _ _ _ => (pe_has h_law_is_counter gu (hr.mono (by decide)) (by rfl) (pa_cons (pv 1) pa_nil)))) pa_nil))))))), fun W ds Φ hK hC => ?_⟩
  subst hK
  obtain ⟨x, rfl, ok, hΦ⟩ := hC
  dsimp only at hΦ
  walk_at "ws"
  refine op_isi (ok_notTy ok) (by decide) ⟨_, rfl, ?_⟩
  rw [inst_tup]
  cases x with
  | tup xs =>
    obtain ⟨hl, hx⟩ := ok_tup ok
    rw [isCounters] at hΦ
    refine L2.iteT (wp_andV (wp_is (.bl (decide (1 ≤ xs.length) && decide (xs.length ≤ 3))) ?_ ⟨_, rfl, ?_⟩))
    · walk_at "ws"
      refine op_len_t ?_
      walk_at "ws"
      refine if_b (fun h => ?_) (fun h => ?_)
      · walk_at "ws"
        refine ⟨rfl, ?_⟩
        have h' : 1 ≤ xs.length := by have := of_decide_eq_true h; omega
        have h2 : ((xs.length : Int) ≤ 3) ↔ xs.length ≤ 3 := by omega
        simp [h', h2]
      · refine ⟨rfl, ?_⟩
        have h' : ¬ 1 ≤ xs.length := by have := of_decide_eq_false h; omega
        simp [h']
    · refine if_b (fun h => ?_) (fun h => ?_)
      · rw [h, Bool.true_and] at hΦ
        walk_at "ws"
        refine wp_map (L := [1]) (f := fun d => .bl (isCounter d)) (by simp) (wi_tup (wp_var rfl ⟨xs, rfl, hl, fun d hd => ?_, ?_⟩))
        · walk_at "ws"
          refine ⟨rfl, wp_call ?_⟩
          walk_at "ws"
          exact ⟨hx d hd, rfl, rfl⟩
        · walk_at "ws"
          rw [all_map]
          refine op_all ?_
          rw [List.all_map]
          exact hΦ
      · rw [h] at hΦ
        exact hΦ
  | _ => exact hΦ
theorem ok_law_is_right_setting (T : Txt2 mg) (Dd : DefIn K mg "_law_is_right_setting" s_law_is_right_setting ["_law_counters_here", "_law_value"]) :
    Has P w K mg base 1 "_law_is_right_setting" ["_law_counters_here", "_law_value"] (spD K CPlace) := by
  refine has_D Dd sc_law_is_right_setting (fun _ _ h => h.len) fun f cdv B out t H E gu hr => ⟨_, (pss_cons (ps_if (PW.pt (pw_or (pt_not (pt_val (pe_callB (k_isi (K := K) rfl) (by rfl) T.n_isinstance (by decide +kernel) (pa_cons (pv 1) (pa_cons (pe_bltn (v := .ty "tuple") (by rfl) T.n_tuple (by decide +kernel) rfl) pa_nil))))) (pw_or1 (pt_cmpR op_ne (pe_callB (k_len (K := K) rfl) (by rfl) T.n_len PySem.boot_len (pa_cons (pv 1) pa_nil)) (pe_callB (k_len (K := K) rfl) (by rfl) T.n_len PySem.boot_len (pa_cons (pv 0) pa_nil)) (nomark _))))) (pss_one (ps_ret pe_bl)) pss_nil)
      (pss_one (ps_ret (pe_callB (k_all (K := K) rfl rfl) (by rfl) T.n_all (by decide +kernel) (pa_cons (pe_lc (own := [("_law_pair", 2), ("_law_kind", 3)]) rfl sc_law_is_right_setting.nd (k_zip (K := K) rfl (by rfl) T.n_zip (pa_cons (pv 0) (pa_cons (pv 1) pa_nil))) (blkOk_by (own := [("_law_pair", 2), ("_law_kind", 3)]) (N := N_law_is_right_setting) (sc := defScope s_law_is_right_setting) (by decide +kernel)) (fun _ _ _ _ _ => (k_tgt (K := K) (n := 2) rfl rfl (pgs_cons (pg_name (i := 2) sc_law_is_right_setting.nd rfl (Or.inl rfl)) (pgs_cons (pg_name (i := 3) sc_law_is_right_setting.nd rfl (Or.inl rfl)) pgs_nil)))) (fun _ _ _ _ _ => pts_nil) (fun _ _ _ _ _ => (pe_or (pe_cmpR op_isN (pv 3) pe_non (nomark _)) (pe_one (pe_and (pe_callB (k_isi (K := K) rfl) (by rfl) T.n_isinstance (by decide +kernel) (pa_cons (pv 3) (pa_cons (pe_bltn (v := .ty "str") (by rfl) T.n_str (by decide +kernel) rfl) pa_nil))) (pe_one (pe_cmpR (k_in (K := K) rfl) (pv 3) (pe_ix (k_ixT (K := K) rfl) (pv 2) pe_int (fun _ _ => rfl)) (by rfl)))))))) pa_nil))))), fun W ds Φ hK hC => ?_⟩
  subst hK
  obtain ⟨cs, v, rfl, hc, hl, ok, hΦ⟩ := hC
  walk_at "ws"
  refine op_isi (ok_notTy ok) (by decide) ⟨_, rfl, ?_⟩
  rw [inst_tup]
  cases v with
  | tup xs =>
    obtain ⟨hxl, hx⟩ := ok_tup ok
    walk_at "ws"
    refine op_len_t ?_
    walk_at "ws"
    refine op_len_t ?_
    refine op_nes rfl ⟨_, rfl, ?_⟩
    have e : eqD (.int (xs.length : Nat)) (.int (cs.length : Nat)) = decide (xs.length = cs.length) := by
      rw [Bool.eq_iff_iff]; simp [eqD]; omega
    rw [e]
    have e2 : isPlace cs (.tup xs) = (decide (xs.length = cs.length) && (cs.zip xs).all fun p => isPut p.1 p.2) := rfl
    rw [e2] at hΦ
    refine if_b (fun h => ?_) (fun h => ?_)
    · rw [Bool.not_eq_true'] at h
      rw [h] at hΦ
      walk_at "ws"
      exact hΦ
    · rw [Bool.not_eq_false'] at h
      rw [h, Bool.true_and] at hΦ
      walk_at "ws"
      refine wp_map (L := [2, 3]) (f := fun d => match d with | .tup [a, b] => .bl (isPut a b) | _ => .non) (by simp) (wi_zipT (wpA_cons (wp_var rfl (wpA_cons (wp_var rfl (wpA_nil ⟨_, _, rfl, ?_, ?_, ?_⟩))))))
      · simp [zipD]; omega
      · intro d hd
        obtain ⟨⟨a, b⟩, hab, rfl⟩ := List.mem_map.mp hd
        have hm := List.of_mem_zip hab
        obtain ⟨ks, s, rfl, h1, h2⟩ := counter_tup (List.all_eq_true.mp hc a hm.1)
        obtain ⟨g1, _⟩ := names_ok h1
        have okb := hx b hm.2
        refine wg_tup rfl (wgs_cons (wg_name (wgs_cons (wg_name (wgs_nil ⟨rfl, ?_⟩)))))
        walk_at "ws"
        refine op_is ⟨_, rfl, ?_⟩
        cases b with
        | non => exact ⟨rfl, rfl⟩
        | str z =>
          walk_at "ws"
          refine op_isi (ok_notTy okb) (by decide) ⟨_, rfl, ?_⟩
          rw [inst_str]
          walk_at "ws"
          refine op_ixT (ix0 _ _) ?_
          exact op_inT rfl g1 ⟨rfl, rfl⟩
        | _ =>
          walk_at "ws"
          refine op_isi (ok_notTy okb) (by decide) ⟨_, rfl, ?_⟩
          rw [inst_str]
          exact ⟨rfl, rfl⟩
      · walk_at "ws"
        have e3 : List.map (fun d => match d with | .tup [a, b] => .bl (isPut a b) | _ => .non) (zipD cs xs) = ((cs.zip xs).map fun p => isPut p.1 p.2).map D.bl := by
          rw [zipD, List.map_map, List.map_map]; rfl
        rw [e3]
        refine op_all ?_
        rw [List.all_map]
        exact hΦ
  | _ => walk_at "ws"; exact hΦ
end
end FR
namespace FR
open PySem PySem.Spec PyProof.Rows L2
local macro_rules | `(tactic| walk_at "w") => `(tactic| first
  | with_reducible refine ws_seq ?_ | with_reducible refine ws_next ?_ | with_reducible refine ws_ret ?_ | with_reducible refine ws_retN ?_ | with_reducible refine ws_if ?_ | with_reducible refine ws_drop ?_ | with_reducible refine ws_set ?_ | with_reducible refine wg_name ?_
  | refine wp_var rfl ?_ | with_reducible refine wp_ci ?_ | with_reducible refine wp_cs ?_ | with_reducible refine wp_cb ?_ | with_reducible refine wp_cn ?_ | with_reducible refine wp_ct ?_
  | with_reducible refine wpA_nil ?_ | with_reducible refine wpA_cons ?_ | with_reducible refine wp_tup ?_ | with_reducible refine wp_lst ?_ | with_reducible refine wp_op ?_ | with_reducible refine wp_un ?_ | with_reducible refine wp_cb2 ?_ | with_reducible refine wp_if ?_
  | with_reducible refine wp_andV ?_ | with_reducible refine wp_orV ?_ | with_reducible refine wp_notV ?_ | with_reducible refine wp_chain ?_
  | with_reducible refine wpT_B ?_ | with_reducible refine wpT_test ?_ | with_reducible refine wpT_and ?_ | with_reducible refine wpT_or ?_ | with_reducible refine wpT_not ?_ | with_reducible refine wpT_yes ?_
  | refine op2_i (fun _ _ => .bl _) ?_ | refine op2_i (fun _ _ => .int _) ?_
  | refine L2.iteT ?_ | refine L2.iteF ?_ | refine And.intro (sz rfl) ?_
  | refine ⟨_, rfl, ?_⟩)
local macro_rules | `(tactic| walk_at "ws") => `(tactic| repeat walk_at "w")


abbrev s_law_bent : Stmt := top 32
abbrev N_law_bent : List Str := ["_law_pot_here", "_law_value", "_law_part", "_law_at", "_law_parts"]
theorem sc_law_bent : FnScope N_law_bent ["_law_pot_here", "_law_value"] (defScope s_law_bent) := ⟨rfl, rfl, rfl, by decide +kernel, rfl, by decide +kernel, by decide +kernel⟩

abbrev s_law_right : Stmt := top 33
abbrev N_law_right : List Str := ["_law_pot_here", "_law_counters_here", "_law_setting_here", "_law_things", "_law_thing", "_law_kept", "_law_due"]
theorem sc_law_right : FnScope N_law_right ["_law_pot_here"] (defScope s_law_right) := ⟨rfl, rfl, rfl, by decide +kernel, rfl, by decide +kernel, by decide +kernel⟩

abbrev s_law : Stmt := top 34
abbrev N_law : List Str := ["_law_script", "_law_k", "_law_pot_here", "_law_turn"]
theorem sc_law : FnScope N_law ["_law_script"] (defScope s_law) := ⟨rfl, rfl, rfl, by decide +kernel, rfl, by decide +kernel, by decide +kernel⟩

def CBent (k : Nat) : List D → Nat → (D → Nat → Prop) → Prop := fun ds n Φ => ∃ (xs : List D) (b : Nat), ds = [.tup xs] ∧ fit k b (.tup xs) = true ∧ b ≤ 100000 ∧ n + 10 * k ≤ potMost ∧ ∀ y n', n' ≤ n + 10 * k → fit (k + 4) (2 * b + 200 * k) y = true → Φ y n'
theorem CBent.len {k : Nat} {ds : List D} {n : Nat} {Φ : D → Nat → Prop} (h : CBent k ds n Φ) : ds.length + 1 = 2 := by obtain ⟨x, b, rfl, _⟩ := h; rfl
theorem lt_fit0 {b : Nat} {xs : List D} (h : fit 0 b (.tup xs) = true) : False := by
  have h := (fit_iff.mp h).2.1
  rw [dp] at h
  omega
/-- a part replaced -/
theorem fit_set {k b c : Nat} {xs : List D} {i : Nat} {x y : D} (h : fit (k + 1) b (.tup xs) = true) (hx : xs[i]? = some x) (hy : fit (k + 4) c y = true) (hc : wtL xs + 4 + c ≤ 2 * b + 200 * (k + 1) + wt x) : fit (k + 1 + 4) (2 * b + 200 * (k + 1)) (.tup (xs.set i y)) = true := by
  obtain ⟨h1, h2⟩ := tup_fit h
  obtain ⟨y1, y2, y3⟩ := fit_iff.mp hy
  have hw := wtL_set xs i x y hx
  refine fit_tup (a := k + 4) (fun z hz => ?_) (by omega)
  rcases List.mem_or_eq_of_mem_set hz with z1 | rfl
  · exact ⟨(h1 z z1).1, by have := (h1 z z1).2; omega⟩
  · exact ⟨y1, y2⟩
section
variable {P : Program} {w : World} {K : PySem.W.Frag} {mg : Str → Option Value} {base : Heap}
theorem law_bent0 (Dd : DefIn K mg "_law_bent" s_law_bent ["_law_pot_here", "_law_value"]) : Has P w K mg base 25 "_law_bent" ["_law_pot_here", "_law_value"] (spP K (CBent 0)) := by
  refine has_sp Dd sc_law_bent (fun vs H Q E h => ?_) fun f cdv B out t H vs Q E gu hr h => ?_ <;>
  · obtain ⟨M, p, us, n, ds, Φ, rfl, _, _, _, r, ⟨xs, b, _, h, _⟩, _⟩ := h
    exact (lt_fit0 h).elim
theorem law_bent_step {k : Nat} (T : Txt2 mg) (Dd : DefIn K mg "_law_bent" s_law_bent ["_law_pot_here", "_law_value"]) (h_law_take : Has P w K mg base 1 "_law_take" ["_law_pot_here", "_law_many"] (spP K CTake)) (h_law_of : Has P w K mg base 2 "_law_of" ["_law_pot_here", "_law_some"] (spP K COf)) (h_law_odd : Has P w K mg base 24 "_law_odd" ["_law_pot_here", "_law_deep"] (spP K (COdd 21)))
    (h_law_bent : Has P w K mg base (25 + k) "_law_bent" ["_law_pot_here", "_law_value"] (spP K (CBent k))) : Has P w K mg base (25 + k + 1) "_law_bent" ["_law_pot_here", "_law_value"] (spP K (CBent (k + 1))) := by
  refine has_P Dd sc_law_bent (fun _ _ _ h => h.len) fun f cdv B out t H E gu hr => ⟨_, (pss_cons (ps_par (i := 3) (j := 4) (by rfl) sc_law_bent.nd rfl rfl (by decide) rfl rfl (pa_cons (pe_has h_law_take gu (hr.mono (by omega)) (by rfl) (pa_cons (pv 0) (pa_cons (pe_op op_add (pe_callB (k_len (K := K) rfl) (by rfl) T.n_len PySem.boot_len (pa_cons (pv 1) pa_nil)) pe_int) pa_nil))) (pa_cons (pe_callTy (k_list (K := K) rfl) (by rfl) T.n_list (by decide +kernel) (pa_cons (pv 1) pa_nil)) pa_nil)) (by rfl))
      (pss_cons (ps_if (pt_cmpR op_eq (pv 3) (pe_callB (k_len (K := K) rfl) (by rfl) T.n_len PySem.boot_len (pa_cons (pv 1) pa_nil)) (nomark _)) (pss_one (ps_ret (pe_has h_law_of gu (hr.mono (by omega)) (by rfl) (pa_cons (pv 0) (pa_cons (pe_lst (pa_cons (pe_op (k_catT (K := K) rfl) (pv 1) (pe_slice (k_slT (K := K) rfl) (pv 1) (po_some (pe_un un_neg pe_int)) po_none)) (pa_cons (pe_slice (k_slT (K := K) rfl) (pv 1) (po_some pe_int) po_none) (pa_cons (pe_callTy (k_list (K := K) rfl) (by rfl) T.n_list (by decide +kernel) (pa_cons (pv 1) pa_nil)) (pa_cons (pe_op (k_catT (K := K) rfl) (pv 1) (pe_tup (pa_cons (pe_has h_law_odd gu (hr.mono (by omega)) (by rfl) (pa_cons (pv 0) (pa_cons pe_int pa_nil))) pa_nil))) pa_nil))))) pa_nil))))) pss_nil)
      (pss_cons (ps_set (i := 2) sc_law_bent.nd rfl (Or.inl rfl) (pe_ix (k_ixL (K := K) rfl) (pv 4) (pv 3) (fun _ _ => rfl)))
      (pss_cons (ps_asg (pe_ifExp (PW.pt (pw_and (pt_val (pe_callB (k_isi (K := K) rfl) (by rfl) T.n_isinstance (by decide +kernel) (pa_cons (pv 2) (pa_cons (pe_bltn (v := .ty "tuple") (by rfl) T.n_tuple (by decide +kernel) rfl) pa_nil)))) (pw_and1 (pt_cmpR op_eq (pe_has h_law_take gu (hr.mono (by omega)) (by rfl) (pa_cons (pv 0) (pa_cons pe_int pa_nil))) pe_int (nomark _))))) (pe_has h_law_bent gu (hr.mono (by omega)) (by rfl) (pa_cons (pv 0) (pa_cons (pv 2) pa_nil))) (pe_has h_law_odd gu (hr.mono (by omega)) (by rfl) (pa_cons (pv 0) (pa_cons pe_int pa_nil)))) (pg_sub (pv 4) (pv 3) set_list))
      (pss_one (ps_ret (pe_callTy (k_tuple (K := K) rfl) (by rfl) T.n_tuple (by decide +kernel) (pa_cons (pv 4) pa_nil)))))))), fun W n ds Φ hK hC => ?_⟩
  subst hK
  obtain ⟨xs, b, rfl, hf, hb, hn, hΦ⟩ := hC
  obtain ⟨f1, f2⟩ := tup_fit hf
  have hlen := wtL_len xs
  refine ws_seq (ws_parOwn (by decide) (Nat.le_of_ble_eq_true rfl) (fun zs e => nomatch e) ?_)
  refine wp_callP rfl ?_
  walk_at "ws"
  refine op_len_t ?_
  walk_at "ws"
  refine ⟨by omega, by omega, by omega, fun r r0 r1 => ?_⟩
  walk_at "ws"
  refine op_len_t ?_
  refine op_eqs rfl ⟨_, rfl, ?_⟩
  have e : eqD (.int r) (.int (xs.length : Nat)) = decide (r = xs.length) := by
    rw [Bool.eq_iff_iff]; simp [eqD]
  rw [e]
  refine if_b (fun h => ?_) (fun h => ?_)
  · walk_at "ws"
    refine wp_callP rfl ?_
    walk_at "ws"
    refine wp_slT (wp_var rfl ⟨_, rfl, wpO_some (wp_un (wp_ci (op_neg ⟨_, rfl, wpO_none ?_⟩)))⟩)
    have c1 := (cut_sub xs (some (-1)) none).length_le
    have c2 := (cut_sub xs (some 1) none).length_le
    refine op_cT (by rw [sizeLine_eq]; omega) ?_
    walk_at "ws"
    refine wp_slT (wp_var rfl ⟨_, rfl, wpO_some (wp_ci ⟨_, rfl, wpO_none ?_⟩)⟩)
    walk_at "ws"
    refine op_listT ?_
    walk_at "ws"
    refine wp_callP rfl ?_
    walk_at "ws"
    refine ⟨2, ⟨rfl, by decide⟩, by omega, fun y n' hn' hy => ?_⟩
    walk_at "ws"
    refine op_cT (by rw [sizeLine_eq, List.length_singleton]; omega) ?_
    walk_at "ws"
    refine ⟨by simp, by simp, by omega, fun x hx => hΦ x _ (by omega) ?_⟩
    obtain ⟨y1, y2, y3⟩ := fit_iff.mp hy
    have s1 := wtL_sub (cut_sub xs (some (-1)) none)
    have s2 := wtL_sub (cut_sub xs (some 1) none)
    have f3 : ∀ z ∈ xs, fineD z = true ∧ dp z ≤ k + 4 := fun z hz => ⟨(f1 z hz).1, by have := (f1 z hz).2; omega⟩
    simp only [List.mem_cons, List.not_mem_nil, or_false] at hx
    rcases hx with rfl | rfl | rfl | rfl
    · refine fit_tup (a := k + 4) (fun z hz => ?_) (by rw [wtL_app]; omega)
      rcases List.mem_append.mp hz with z1 | z1
      · exact f3 z z1
      · exact f3 z ((cut_sub xs _ _).subset z1)
    · exact fit_tup (a := k + 4) (fun z hz => f3 z ((cut_sub xs _ _).subset hz)) (by omega)
    · exact fit_lst (a := k + 4) f3 (by omega)
    · refine fit_tup (a := k + 4) (fun z hz => ?_) (by rw [wtL_app, wtL, wtL]; omega)
      rcases List.mem_append.mp hz with z1 | z1
      · exact f3 z z1
      · rw [List.mem_singleton] at z1; subst z1; exact ⟨y1, by omega⟩
  · have h' : r < xs.length := by have := of_decide_eq_false h; omega
    have hr' : r.toNat < xs.length := by omega
    obtain ⟨x, hx⟩ : ∃ x, xs[r.toNat]? = some x := ⟨_, List.getElem?_eq_getElem hr'⟩
    have hix : ixN xs.length r = some r.toNat := by
      unfold ixN
      rw [if_pos r0, if_pos h']
    have hat : atI xs r = some x := by
      unfold atI
      rw [hix]; exact hx
    have hxm := List.mem_of_getElem? hx
    have okx : okD x = true := ok_fine (f1 x hxm).1 (by
      have := wtL_sub (List.singleton_sublist.mpr hxm)
      rw [wtL, wtL] at this
      rw [sizeLine_eq]; omega)
    have wx := wtL_sub (List.singleton_sublist.mpr hxm)
    rw [wtL, wtL] at wx
    refine ws_next ?_
    refine ws_seq (ws_set (wp_ixOwn (xs := xs) rfl (wp_var rfl ⟨_, rfl, x, hat, ?_⟩)))
    refine ws_seq (ws_setOwn (xs := xs) rfl ?_)
    refine Wp.mono (Φ := fun y m => m ≤ n + 10 * (k + 1) ∧ ∃ c, fit (k + 4) c y = true ∧ wtL xs + 4 + c ≤ 2 * b + 200 * (k + 1) + wt x) ?_ ?_
    · refine wp_if (WpT.mono (Φ := fun c m => m ≤ n + 2 ∧ (c = true → isTup x = true)) ?_ ?_)
      · walk_at "ws"
        refine op_isi (ok_notTy okx) (by decide) ⟨_, rfl, ?_⟩
        rw [inst_tup]
        refine if_b (fun g => ?_) (fun g => ?_)
        · walk_at "ws"
          refine wp_callP rfl ?_
          walk_at "ws"
          refine ⟨by decide, by decide, by omega, fun q q0 q1 => ?_⟩
          walk_at "ws"
          exact op_eqs rfl ⟨_, rfl, by omega, fun _ => g⟩
        · exact ⟨by omega, fun z => nomatch z⟩
      · rintro c m ⟨m1, m2⟩
        cases c with
        | true =>
          have tx := m2 rfl
          cases x with
          | tup ps =>
            walk_at "ws"
            refine wp_callP rfl ?_
            walk_at "ws"
            exact ⟨ps, wt (.tup ps), rfl, fit_iff.mpr ⟨(f1 _ hxm).1, by have := (f1 _ hxm).2; omega, Nat.le_refl _⟩, by omega, by omega, fun y n' hn' hy => ⟨by omega, _, hy, by omega⟩⟩
          | _ => cases tx
        | false =>
          walk_at "ws"
          refine wp_callP rfl ?_
          walk_at "ws"
          exact ⟨2, ⟨rfl, by decide⟩, by omega, fun y n' hn' hy => ⟨by omega, 160, fit.mono hy (by omega) (by omega), by omega⟩⟩
    · rintro y m ⟨m1, c, hy, hc⟩
      refine wp_var rfl ⟨_, _, rfl, hix, ?_⟩
      refine ws_freeze (xs := xs.set r.toNat y) (i := 4) rfl ?_
      walk_at "ws"
      exact op_tupleL (hΦ _ _ m1 (fit_set hf hx hy hc))
theorem ok_law_bent (T : Txt2 mg) (Dd : DefIn K mg "_law_bent" s_law_bent ["_law_pot_here", "_law_value"]) (h_law_take : Has P w K mg base 1 "_law_take" ["_law_pot_here", "_law_many"] (spP K CTake)) (h_law_of : Has P w K mg base 2 "_law_of" ["_law_pot_here", "_law_some"] (spP K COf)) (h_law_odd : Has P w K mg base 24 "_law_odd" ["_law_pot_here", "_law_deep"] (spP K (COdd 21))) :
    Has P w K mg base 28 "_law_bent" ["_law_pot_here", "_law_value"] (spP K (CBent 3)) := by
  have h : ∀ k, Has P w K mg base (25 + k) "_law_bent" ["_law_pot_here", "_law_value"] (spP K (CBent k)) := fun k => by
    induction k with
    | zero => exact law_bent0 Dd
    | succ k ih => exact law_bent_step T Dd h_law_take h_law_of h_law_odd ih
  exact h 3
def CRight9 : List D → Nat → (D → Nat → Prop) → Prop := fun ds n Φ => ds = [] ∧ n + 300 ≤ potMost ∧ ∀ n', n' ≤ n + 300 → Φ (.bl true) n'
theorem CRight9.len {ds : List D} {n : Nat} {Φ : D → Nat → Prop} (h : CRight9 ds n Φ) : ds.length + 1 = 1 := by rw [h.1]; rfl
theorem show_bl (b : Bool) : canShow (.bl b) = true := by cases b <;> decide +kernel
theorem ne_self (z : Str) : (!eqD (.str z) (.str z)) = false := by simp [eqD]
theorem ok_law_right (T : Txt2 mg) (sysb : SysB base) (Dd : DefIn K mg "_law_right" s_law_right ["_law_pot_here"]) (h_law_counters : Has P w K mg base 3 "_law_counters" ["_law_pot_here", "_law_most"] (spP K CCtr)) (h_law_setting : Has P w K mg base 3 "_law_setting" ["_law_pot_here", "_law_counters_here"] (spP K CMkSet))
    (h_law_odd : Has P w K mg base 24 "_law_odd" ["_law_pot_here", "_law_deep"] (spP K (COdd 21))) (h_law_bent : Has P w K mg base 28 "_law_bent" ["_law_pot_here", "_law_value"] (spP K (CBent 3))) (h_is_counters : Has P w K mg base 4 "is_counters" ["value"] (spD K (C1 okD fun x => .bl (isCounters x)))) (h_law_are_counters : Has P w K mg base 3 "_law_are_counters" ["_law_value"] (spD K (C1 okD fun x => .bl (isCounters x))))
    (h_law_is_right_setting : Has P w K mg base 1 "_law_is_right_setting" ["_law_counters_here", "_law_value"] (spD K CPlace)) (h_is_setting : Has P w K mg base 6 "is_setting" ["counters", "value"] (spD K CSetg)) :
    Has P w K mg base 29 "_law_right" ["_law_pot_here"] (spP K CRight9) := by
  refine has_P Dd sc_law_right (fun _ _ _ h => h.len) fun f cdv B out t H E gu hr => ⟨_, (pss_cons (ps_set (i := 1) sc_law_right.nd rfl (Or.inl rfl) (pe_has h_law_counters gu (hr.mono (by decide)) (by rfl) (pa_cons (pv 0) (pa_cons pe_int pa_nil))))
      (pss_cons (ps_set (i := 2) sc_law_right.nd rfl (Or.inl rfl) (pe_has h_law_setting gu (hr.mono (by decide)) (by rfl) (pa_cons (pv 0) (pa_cons (pv 1) pa_nil))))
      (pss_cons (ps_set (i := 3) sc_law_right.nd rfl (Or.inl rfl) (pe_lst (pa_cons (pv 1) (pa_cons (pe_has h_law_bent gu (hr.mono (by decide)) (by rfl) (pa_cons (pv 0) (pa_cons (pv 1) pa_nil))) (pa_cons (pe_has h_law_bent gu (hr.mono (by decide)) (by rfl) (pa_cons (pv 0) (pa_cons (pv 1) pa_nil))) (pa_cons (pe_has h_law_odd gu (hr.mono (by decide)) (by rfl) (pa_cons (pv 0) (pa_cons pe_int pa_nil))) (pa_cons (pe_has h_law_odd gu (hr.mono (by decide)) (by rfl) (pa_cons (pv 0) (pa_cons pe_int pa_nil))) pa_nil)))))))
      (pss_cons (ps_for PassesOwn.never rfl (k_lst (K := K) rfl (pv 3)) (pg_name (i := 4) sc_law_right.nd rfl (Or.inl rfl)) (pss_cons (ps_set (i := 5) sc_law_right.nd rfl (Or.inl rfl) (pe_callB (k_repr (K := K) rfl gu (units_of hr) sysb) (by rfl) T.n_repr (by decide +kernel) (pa_cons (pv 4) pa_nil)))
      (pss_one (ps_if (PW.pt (pw_or (pt_cmpR op_ne (pe_callB (k_repr (K := K) rfl gu (units_of hr) sysb) (by rfl) T.n_repr (by decide +kernel) (pa_cons (pe_has h_is_counters gu (hr.mono (by decide)) (by rfl) (pa_cons (pv 4) pa_nil)) pa_nil)) (pe_callB (k_repr (K := K) rfl gu (units_of hr) sysb) (by rfl) T.n_repr (by decide +kernel) (pa_cons (pe_has h_law_are_counters gu (hr.mono (by decide)) (by rfl) (pa_cons (pv 4) pa_nil)) pa_nil)) (nomark _)) (pw_or1 (pt_cmpR op_ne (pe_callB (k_repr (K := K) rfl gu (units_of hr) sysb) (by rfl) T.n_repr (by decide +kernel) (pa_cons (pv 4) pa_nil)) (pv 5) (nomark _))))) (pss_one (ps_ret pe_bl)) pss_nil))))
      (pss_cons (ps_set (i := 3) sc_law_right.nd rfl (Or.inl rfl) (pe_lst (pa_cons (pv 2) (pa_cons (pe_has h_law_bent gu (hr.mono (by decide)) (by rfl) (pa_cons (pv 0) (pa_cons (pv 2) pa_nil))) (pa_cons (pe_has h_law_bent gu (hr.mono (by decide)) (by rfl) (pa_cons (pv 0) (pa_cons (pv 2) pa_nil))) (pa_cons (pe_has h_law_odd gu (hr.mono (by decide)) (by rfl) (pa_cons (pv 0) (pa_cons pe_int pa_nil))) (pa_cons (pe_has h_law_odd gu (hr.mono (by decide)) (by rfl) (pa_cons (pv 0) (pa_cons pe_int pa_nil))) pa_nil)))))))
      (pss_cons (ps_for PassesOwn.never rfl (k_lst (K := K) rfl (pe_op op_cat (pv 3) (pe_lst (pa_cons (pv 1) pa_nil)))) (pg_name (i := 4) sc_law_right.nd rfl (Or.inl rfl)) (pss_cons (ps_par (i := 5) (j := 6) (by rfl) sc_law_right.nd rfl rfl (by decide) rfl rfl (pa_cons (pe_callB (k_repr (K := K) rfl gu (units_of hr) sysb) (by rfl) T.n_repr (by decide +kernel) (pa_cons (pv 4) pa_nil)) (pa_cons (pe_has h_law_is_right_setting gu (hr.mono (by decide)) (by rfl) (pa_cons (pv 1) (pa_cons (pv 4) pa_nil))) pa_nil)) (by rfl))
      (pss_one (ps_if (PW.pt (pw_or (pt_cmpR op_ne (pe_callB (k_repr (K := K) rfl gu (units_of hr) sysb) (by rfl) T.n_repr (by decide +kernel) (pa_cons (pe_has h_is_setting gu (hr.mono (by decide)) (by rfl) (pa_cons (pv 1) (pa_cons (pv 4) pa_nil))) pa_nil)) (pe_callB (k_repr (K := K) rfl gu (units_of hr) sysb) (by rfl) T.n_repr (by decide +kernel) (pa_cons (pv 6) pa_nil)) (nomark _)) (pw_or1 (pt_cmpR op_ne (pe_callB (k_repr (K := K) rfl gu (units_of hr) sysb) (by rfl) T.n_repr (by decide +kernel) (pa_cons (pv 4) pa_nil)) (pv 5) (nomark _))))) (pss_one (ps_ret pe_bl)) pss_nil))))
      (pss_one (ps_ret pe_bl)))))))), fun W n ds Φ hK hC => ?_⟩
  subst hK
  obtain ⟨rfl, hn, hΦ⟩ := hC
  walk_at "ws"
  refine wp_callP rfl ?_
  walk_at "ws"
  refine ⟨by decide, by decide, by omega, fun cs n1 hn1 hcs hcf => ?_⟩
  have hcs' := hcs
  rw [isCounters, Bool.and_eq_true, Bool.and_eq_true, decide_eq_true_eq, decide_eq_true_eq] at hcs'
  have hco : okD (.tup cs) = true := fit.ok hcf (by decide)
  walk_at "ws"
  refine wp_callP rfl ?_
  walk_at "ws"
  refine ⟨hcs'.2, hcs'.1.2, hcf, by omega, fun xs n2 hn2 hxl hxn => ?_⟩
  have hxf : fit 3 300 (.tup xs) = true := by
    have nm := fun y hy => nn_fine (List.all_eq_true.mp hxn y hy)
    have wk := wtL_le (b := 82) fun y hy => (nm y hy).2.2
    exact fit.mono (fit_tup (a := 0) (b := 300) (fun y hy => ⟨(nm y hy).1, by rw [(nm y hy).2.1]; exact Nat.le_refl _⟩) (by omega)) (by decide) (by decide)
  walk_at "ws"
  refine wp_callP rfl ?_
  walk_at "ws"
  refine ⟨cs, 1300, rfl, hcf, by decide, by omega, fun b1 n3 hn3 hb1 => ?_⟩
  walk_at "ws"
  refine wp_callP rfl ?_
  walk_at "ws"
  refine ⟨cs, 1300, rfl, hcf, by decide, by omega, fun b2 n4 hn4 hb2 => ?_⟩
  walk_at "ws"
  refine wp_callP rfl ?_
  walk_at "ws"
  refine ⟨3, ⟨rfl, by decide⟩, by omega, fun b3 n5 hn5 hb3 => ?_⟩
  walk_at "ws"
  refine wp_callP rfl ?_
  walk_at "ws"
  refine ⟨20, ⟨rfl, by decide⟩, by omega, fun b4 n6 hn6 hb4 => ?_⟩
  walk_at "ws"
  have t1 : ∀ t ∈ [D.tup cs, b1, b2, b3, b4], fit 30 10000 t = true := by
    intro t ht
    simp only [List.mem_cons, List.not_mem_nil, or_false] at ht
    rcases ht with rfl | rfl | rfl | rfl | rfl
    · exact fit.mono hcf (by decide) (by decide)
    · exact fit.mono hb1 (by decide) (by decide)
    · exact fit.mono hb2 (by decide) (by decide)
    · exact fit.mono hb3 (by decide) (by decide)
    · exact fit.mono hb4 (by decide) (by decide)
  generalize hth : [D.tup cs, b1, b2, b3, b4] = things at *
  refine ws_for (L := [4]) (wi_list (wp_var rfl ⟨things, rfl, fun i env' m' => m' = n6 ∧ ∃ e4 e5 e6, env' = [.pot, .d (.tup cs), .d (.tup xs), .d (.lst things), e4, e5, e6], ⟨rfl, _, _, _, rfl⟩, ?_, ?_⟩))
  · rintro i d env' m' hd ⟨rfl, e4, e5, e6, rfl⟩
    have hf := t1 d (List.mem_of_getElem? hd)
    have hsh := fit.show hf (by decide) (by decide)
    have hok := fit.ok hf (by decide)
    refine wg_name ?_
    walk_at "ws"
    refine op_repr hsh ?_
    walk_at "ws"
    refine wp_call ?_
    walk_at "ws"
    refine ⟨hok, ?_⟩
    walk_at "ws"
    refine op_repr (show_bl _) ?_
    walk_at "ws"
    refine wp_call ?_
    walk_at "ws"
    refine ⟨hok, ?_⟩
    walk_at "ws"
    refine op_repr (show_bl _) ?_
    refine op_nes rfl ⟨_, rfl, ?_⟩
    rw [ne_self]
    walk_at "ws"
    refine op_repr hsh ?_
    walk_at "ws"
    refine op_nes rfl ⟨_, rfl, ?_⟩
    rw [ne_self]
    walk_at "ws"
    exact ⟨rfl, _, _, _, rfl⟩
  · rintro env' m' ⟨rfl, e4, e5, e6, rfl⟩
    walk_at "ws"
    refine wp_callP rfl ?_
    walk_at "ws"
    refine ⟨xs, 300, rfl, hxf, by decide, by omega, fun b5 n7 hn7 hb5 => ?_⟩
    walk_at "ws"
    refine wp_callP rfl ?_
    walk_at "ws"
    refine ⟨xs, 300, rfl, hxf, by decide, by omega, fun b6 n8 hn8 hb6 => ?_⟩
    walk_at "ws"
    refine wp_callP rfl ?_
    walk_at "ws"
    refine ⟨3, ⟨rfl, by decide⟩, by omega, fun b7 n9 hn9 hb7 => ?_⟩
    walk_at "ws"
    refine wp_callP rfl ?_
    walk_at "ws"
    refine ⟨20, ⟨rfl, by decide⟩, by omega, fun b8 n10 hn10 hb8 => ?_⟩
    walk_at "ws"
    have t2 : ∀ t ∈ [D.tup xs, b5, b6, b7, b8] ++ [D.tup cs], fit 30 10000 t = true := by
      intro t ht
      simp only [List.mem_append, List.mem_cons, List.not_mem_nil, or_false] at ht
      rcases ht with (rfl | rfl | rfl | rfl | rfl) | rfl
      · exact fit.mono hxf (by decide) (by decide)
      · exact fit.mono hb5 (by decide) (by decide)
      · exact fit.mono hb6 (by decide) (by decide)
      · exact fit.mono hb7 (by decide) (by decide)
      · exact fit.mono hb8 (by decide) (by decide)
      · exact fit.mono hcf (by decide) (by decide)
    refine ws_for (L := [4]) (wi_list ?_)
    walk_at "ws"
    refine op_cL (sz rfl) ⟨_, rfl, ?_⟩
    generalize hth2 : [D.tup xs, b5, b6, b7, b8] = things2 at *
    refine ⟨fun i env' m' => m' = n10 ∧ ∃ e4 e5 e6, env' = [.pot, .d (.tup cs), .d (.tup xs), .d (.lst things2), e4, e5, e6], ⟨rfl, _, _, _, rfl⟩, ?_, ?_⟩
    · rintro i d env' m' hd ⟨rfl, e4, e5, e6, rfl⟩
      have hf := t2 d (List.mem_of_getElem? hd)
      have hsh := fit.show hf (by decide) (by decide)
      have hok := fit.ok hf (by decide)
      refine wg_name ?_
      refine ws_seq (ws_par ?_)
      walk_at "ws"
      refine op_repr hsh ?_
      walk_at "ws"
      refine wp_call ?_
      walk_at "ws"
      refine ⟨cs, d, rfl, hcs'.2, hcs'.1.2, hok, ?_⟩
      walk_at "ws"
      refine ⟨_, _, rfl, ?_⟩
      walk_at "ws"
      refine wp_call ?_
      walk_at "ws"
      refine ⟨cs, d, rfl, hcs, hco, hok, ?_⟩
      walk_at "ws"
      refine op_repr (show_bl _) ?_
      walk_at "ws"
      refine op_repr (show_bl _) ?_
      refine op_nes rfl ⟨_, rfl, ?_⟩
      rw [ne_self]
      walk_at "ws"
      refine op_repr hsh ?_
      walk_at "ws"
      refine op_nes rfl ⟨_, rfl, ?_⟩
      rw [ne_self]
      walk_at "ws"
      exact ⟨rfl, _, _, _, rfl⟩
    · rintro env' m' ⟨rfl, e4, e5, e6, rfl⟩
      walk_at "ws"
      exact hΦ _ (by omega)
end
end FR
namespace FR
open PySem PySem.Spec PyProof.Rows L2
def spLaw (K : PySem.W.Frag) : Sp := fun vs H Q _ => ∃ (a : Addr) (ns : List Int), vs = [.ref a] ∧ SqL K H a (ns.map V.int) ∧ ns.length ≤ 63 ∧ Only H ∧ ∀ H', Q (.bl true) H'
theorem rp_ints {K : PySem.W.Frag} {H : Hp} : ∀ ns : List Int, RpL K H (ns.map V.int) (ns.map D.int)
  | [] => .nil
  | n :: ns => .cons (.int n) (rp_ints ns)
section
variable {P : Program} {w : World} {K : PySem.W.Frag} {mg : Str → Option Value} {base : Heap}
theorem ok_law {f : Addr} {fd : FuncData} (T : Txt2 mg) (F : Fun K "law" "law" s_law f fd) (h_law_pot : Has P w K mg base 1 "_law_pot" ["_law_script", "_law_k"] (spD K CPot)) (h_law_right : Has P w K mg base 29 "_law_right" ["_law_pot_here"] (spP K CRight9)) :
    FnG P w K mg base 30 f fd ["_law_script"] (spLaw K) := by
  refine fnG_of F sc_law (fun vs H Q E h => ?_) fun cdv B out t H vs Q E gu hr h => ?_
  · obtain ⟨a, ns, rfl, _⟩ := h; rfl
  · obtain ⟨a, ns, rfl, hS, hlen, hO, k⟩ := h
    refine ⟨_, (pss_cons (ps_for PassesOwn.never rfl (pi_range1 (by rfl) T.n_range (pa_cons (pe_callB (call_max2 rfl) (by rfl) T.n_max (by decide +kernel) (pa_cons pe_int (pa_cons (pe_callB (call_min2 rfl) (by rfl) T.n_min (by decide +kernel) (pa_cons pe_int (pa_cons (pe_callB (k_len (K := K) rfl) (by rfl) T.n_len PySem.boot_len (pa_cons (pv 0) pa_nil)) pa_nil))) pa_nil))) pa_nil)) (pg_name (i := 1) sc_law.nd rfl (Or.inl rfl)) (pss_cons (ps_set (i := 2) sc_law.nd rfl (Or.inr rfl) (pe_has h_law_pot gu (hr.mono (by decide)) (by rfl) (pa_cons (pv 0) (pa_cons (pv 1) pa_nil))))
      (pss_one (ps_if (pt_not (pt_val (pe_callB (k_all (K := K) rfl rfl) (by rfl) T.n_all (by decide +kernel) (pa_cons (pe_lc (own := [("_law_turn", 3)]) rfl sc_law.nd (pi_range1 (by rfl) T.n_range (pa_cons pe_int pa_nil)) (blkOk_by (own := [("_law_turn", 3)]) (N := N_law) (sc := defScope s_law) (by decide +kernel)) (fun _ _ _ _ _ => (pg_name (i := 3) sc_law.nd rfl (Or.inl rfl))) (fun _ _ _ _ _ => pts_nil) (fun _ _ _ _ _ => (pe_has h_law_right gu (hr.mono (by decide)) (by rfl) (pa_cons (pv 2) pa_nil)))) pa_nil)))) (pss_one (ps_ret pe_bl)) pss_nil))))
      (pss_one (ps_ret pe_bl))), ?_⟩
    refine ⟨_, rfl, _, _, rfl, .inl ⟨_, hS, rfl⟩, _, _, rfl, _, _, rfl, _, rfl, ?_, ?_, ?_⟩
    · rw [List.length_map]; split <;> split <;> omega
    · rw [List.length_map]; split <;> split <;> omega
    generalize hj : (if (if (((ns.map V.int).length : Nat) : Int) < 3 then (((ns.map V.int).length : Nat) : Int) else 3) > 1 then (if (((ns.map V.int).length : Nat) : Int) < 3 then (((ns.map V.int).length : Nat) : Int) else 3) else 1) = j
    have j3 : j.toNat ≤ 3 := by rw [← hj]; split <;> split <;> omega
    refine for_range (lo := 0) (n := j.toNat) (fun i σ H' => ∃ e1 e2 e3, σ = [some (.ref a), e1, e2, e3] ∧ Same H H') ⟨_, _, _, rfl, Same.refl _⟩ ?_ ?_
    · rintro i σ H1 hi ⟨e1, e2, e3, rfl, s1⟩
      refine ⟨_, rfl, _, rfl, [], [.lsq (ns.map D.int), .int (0 + i)], fun d => ∃ x y : Int, d = .lst [.int x, .int y, .int 0] ∧ 0 ≤ x ∧ x < 10 ^ 300 ∧ 0 ≤ y ∧ y < 2305843009213693921, fun p hp => (nomatch hp), ?_, ⟨ns, 0 + i, rfl, by omega, by omega, fun x y h1 h2 h3 h4 => ⟨x, y, rfl, h1, h2, h3, h4⟩⟩, ?_⟩
      · refine .cons (.lsq (Same.seq (fun b o e => era_of (s1 b o e) (by simp)) hS) (rp_ints ns)) (.cons (.int _) .nil)
      rintro v d H2 ⟨x, y, rfl, x0, x1, y0, y1⟩ s2 r
      cases r with
      | @lst p us _ hp hr2 =>
        have hp2 : H2 p = some (.lst [.int x, .int y, .int 0]) := by
          cases hr2 with
          | cons a1 r =>
            cases r with
            | cons a2 r =>
              cases r with
              | cons a3 r =>
                cases r
                cases a1; cases a2; cases a3
                exact (era_some hp).1
        have s12 : Same H H2 := s1.trans s2
        have np : H p = none := by
          rcases hO p with z | ⟨o, xs, z⟩
          · exact z
          · rw [s12 _ _ z] at hp2; cases hp2
        refine ⟨8, rfl, by decide, by decide, fun D hD => ?_⟩
        have npD : p ≠ D := ne_of_none hp2 hD
        refine lc_range (lo := 0) (n := 8) (fun j H3 => ∃ m, m ≤ 300 * j ∧ PotOk H3 p m ∧ H3 D = some (.lst (List.replicate j (.bl true))) ∧ ∀ b o, b ≠ p → H2 b = some o → H3 b = some o) ?_ ?_ ?_
        · refine ⟨0, Nat.le_refl _, ⟨x, y, 0, by rw [upd_ne npD]; exact hp2, x0, x1, y0, y1, by decide, by decide⟩, upd_same, fun b o _ e => ?_⟩
          rw [upd_ne (ne_of_none e hD)]; exact e
        · rintro j H3 hj10 ⟨m, hm, po, hDl, kp⟩
          refine ⟨rfl, _, rfl, [p], p, [], m, [], fun d n' => d = .bl true ∧ n' ≤ m + 300, rfl, by simp, fun q hq => ?_, po, .nil, ⟨rfl, ?_, fun n' h => ⟨rfl, h⟩⟩, ?_⟩
          · rw [List.mem_singleton] at hq
            subst hq
            exact po.there
          · have : potMost = 1000000 := rfl
            omega
          rintro v d n' H4 ⟨rfl, hn'⟩ kp4 po4 r4
          cases r4
          have hD4 := kp4 D _ npD.symm hDl
          refine ⟨_, hD4, by rw [List.length_replicate, sizeLine_eq]; omega, n', by omega, ?_, ?_, fun b o hb e => ?_⟩
          · obtain ⟨a1, b1, c1, h1, h2⟩ := po4
            exact ⟨a1, b1, c1, by rw [upd_ne npD]; exact h1, h2⟩
          · rw [upd_same, List.replicate_succ']
          · have nb : b ≠ D := ne_of_none e hD
            rw [upd_ne nb]
            exact kp4 b o hb (kp b o hb e)
        · rintro H3 ⟨m, hm, po, hDl, kp⟩
          refine ⟨D, List.replicate 8 true, rfl, .inl (.inl hDl), _, rfl, ?_⟩
          refine ⟨_, _, _, rfl, fun b o e => ?_⟩
          exact kp b o (by rintro rfl; rw [np] at e; cases e) (s12 b o e)
    · rintro σ H1 ⟨e1, e2, e3, rfl, s1⟩
      exact k _
theorem law_mk {h : Heap} {f fa : Addr} {oc kV dc pm cd ct : Value} {od an : Option Addr} {sl : Array (Option Value)} (X : K.In h) (G : h.Ns mainGlobals mg) (hfa : mg "law" = some (.ref fa)) (a : PySem.W.nsIn K mainGlobals "law" = some (some (.ref f)))
    (l : K.lookup f = some ⟨oc, od, .func (PySem.W.fnOf "law" "law" (defArgs s_law) (defBody s_law) (defScope s_law) .none kV dc pm an cd ct), sl⟩) (c : PySem.W.codeIn K cd "law" = true) (k : PySem.W.keepIn K (.ref f) = true) :
    ∃ fd : FuncData, Fun K "law" "law" s_law fa fd ∧ ∀ (s : Shared) (v : Value), BindsTo s fd ⟨[v], []⟩ [("_law_script", v)] := by
  have e := hfa.symm.trans (PySem.W.mg_of X G a)
  cases e
  exact ⟨_, fun_mk (st := s_law) l c k, fun s v => .of_eq rfl⟩
end
end FR
open PySem PySem.W PyProof.Rows in
set_option maxRecDepth 100000 in
set_option maxHeartbeats 0 in
theorem PySem.Challenge.cw_fitruns_k09_counters_and_settings_of_any_holds : PySem.Challenge.rw_fitruns_k09_counters_and_settings_of_any.Holds := by
  w_on; o_law; k_head; (case hw => w_witness2)
  k_fill
  refine FR.walkG (l := PySem.Challenge.rw_fitruns_k09_counters_and_settings_of_any) (n := 63) (k := 30) (x := "_law_script") (sp := fun w => FR.spLaw _) rfl (by decide) rfl ⟨rfl, by decide, by decide⟩ (by decide +kernel) (fun w h Y => PySem.W.kIn_of Y) ?F (fun w H a ns hl hO hS => ⟨a, ns, rfl, hS, hl, hO, fun _ => rfl⟩)
  case F =>
    intro w mg fa h KX G hmg
    refine' have d_is_integer := FR.def_in (x := "is_integer") (st := FR.s_is_integer) (ps := ["value"]) KX G ?a ?l ?c ?k ?b; ?_
    (case a => k_is)
    (case l => k_is)
    (case c => k_is)
    (case k => k_is)
    (case b => exact fun _ _ _ _ _ _ us hl => match us, hl with | [_], _ => rfl)
    refine' have d_is_name := FR.def_in (x := "is_name") (st := FR.s_is_name) (ps := ["value"]) KX G ?a ?l ?c ?k ?b; ?_
    (case a => k_is)
    (case l => k_is)
    (case c => k_is)
    (case k => k_is)
    (case b => exact fun _ _ _ _ _ _ us hl => match us, hl with | [_], _ => rfl)
    refine' have d_is_ascending := FR.def_in (x := "is_ascending") (st := FR.s_is_ascending) (ps := ["some"]) KX G ?a ?l ?c ?k ?b; ?_
    (case a => k_is)
    (case l => k_is)
    (case c => k_is)
    (case k => k_is)
    (case b => exact fun _ _ _ _ _ _ us hl => match us, hl with | [_], _ => rfl)
    refine' have d_are_kinds := FR.def_in (x := "are_kinds") (st := FR.s_are_kinds) (ps := ["value"]) KX G ?a ?l ?c ?k ?b; ?_
    (case a => k_is)
    (case l => k_is)
    (case c => k_is)
    (case k => k_is)
    (case b => exact fun _ _ _ _ _ _ us hl => match us, hl with | [_], _ => rfl)
    refine' have d_is_size := FR.def_in (x := "is_size") (st := FR.s_is_size) (ps := ["value"]) KX G ?a ?l ?c ?k ?b; ?_
    (case a => k_is)
    (case l => k_is)
    (case c => k_is)
    (case k => k_is)
    (case b => exact fun _ _ _ _ _ _ us hl => match us, hl with | [_], _ => rfl)
    refine' have d_is_counter := FR.def_in (x := "is_counter") (st := FR.s_is_counter) (ps := ["value"]) KX G ?a ?l ?c ?k ?b; ?_
    (case a => k_is)
    (case l => k_is)
    (case c => k_is)
    (case k => k_is)
    (case b => exact fun _ _ _ _ _ _ us hl => match us, hl with | [_], _ => rfl)
    refine' have d_is_counters := FR.def_in (x := "is_counters") (st := FR.s_is_counters) (ps := ["value"]) KX G ?a ?l ?c ?k ?b; ?_
    (case a => k_is)
    (case l => k_is)
    (case c => k_is)
    (case k => k_is)
    (case b => exact fun _ _ _ _ _ _ us hl => match us, hl with | [_], _ => rfl)
    refine' have d_check_counters := FR.def_in (x := "check_counters") (st := FR.s_check_counters) (ps := ["counters"]) KX G ?a ?l ?c ?k ?b; ?_
    (case a => k_is)
    (case l => k_is)
    (case c => k_is)
    (case k => k_is)
    (case b => exact fun _ _ _ _ _ _ us hl => match us, hl with | [_], _ => rfl)
    refine' have d_law_pot := FR.def_in (x := "_law_pot") (st := FR.s_law_pot) (ps := ["_law_script", "_law_k"]) KX G ?a ?l ?c ?k ?b; ?_
    (case a => k_is)
    (case l => k_is)
    (case c => k_is)
    (case k => k_is)
    (case b => exact fun _ _ _ _ _ _ us hl => match us, hl with | [_, _], _ => rfl)
    refine' have d_law_take := FR.def_in (x := "_law_take") (st := FR.s_law_take) (ps := ["_law_pot_here", "_law_many"]) KX G ?a ?l ?c ?k ?b; ?_
    (case a => k_is)
    (case l => k_is)
    (case c => k_is)
    (case k => k_is)
    (case b => exact fun _ _ _ _ _ _ us hl => match us, hl with | [_, _], _ => rfl)
    refine' have d_law_of := FR.def_in (x := "_law_of") (st := FR.s_law_of) (ps := ["_law_pot_here", "_law_some"]) KX G ?a ?l ?c ?k ?b; ?_
    (case a => k_is)
    (case l => k_is)
    (case c => k_is)
    (case k => k_is)
    (case b => exact fun _ _ _ _ _ _ us hl => match us, hl with | [_, _], _ => rfl)
    refine' have d_law_counters := FR.def_in (x := "_law_counters") (st := FR.s_law_counters) (ps := ["_law_pot_here", "_law_most"]) KX G ?a ?l ?c ?k ?b; ?_
    (case a => k_is)
    (case l => k_is)
    (case c => k_is)
    (case k => k_is)
    (case b => exact fun _ _ _ _ _ _ us hl => match us, hl with | [_, _], _ => rfl)
    refine' have d_is_put := FR.def_in (x := "is_put") (st := FR.s_is_put) (ps := ["counter", "value"]) KX G ?a ?l ?c ?k ?b; ?_
    (case a => k_is)
    (case l => k_is)
    (case c => k_is)
    (case k => k_is)
    (case b => exact fun _ _ _ _ _ _ us hl => match us, hl with | [_, _], _ => rfl)
    refine' have d_is_place_by_place := FR.def_in (x := "is_place_by_place") (st := FR.s_is_place_by_place) (ps := ["counters", "value"]) KX G ?a ?l ?c ?k ?b; ?_
    (case a => k_is)
    (case l => k_is)
    (case c => k_is)
    (case k => k_is)
    (case b => exact fun _ _ _ _ _ _ us hl => match us, hl with | [_, _], _ => rfl)
    refine' have d_is_setting := FR.def_in (x := "is_setting") (st := FR.s_is_setting) (ps := ["counters", "value"]) KX G ?a ?l ?c ?k ?b; ?_
    (case a => k_is)
    (case l => k_is)
    (case c => k_is)
    (case k => k_is)
    (case b => exact fun _ _ _ _ _ _ us hl => match us, hl with | [_, _], _ => rfl)
    refine' have d_law_setting := FR.def_in (x := "_law_setting") (st := FR.s_law_setting) (ps := ["_law_pot_here", "_law_counters_here"]) KX G ?a ?l ?c ?k ?b; ?_
    (case a => k_is)
    (case l => k_is)
    (case c => k_is)
    (case k => k_is)
    (case b => exact fun _ _ _ _ _ _ us hl => match us, hl with | [_, _], _ => rfl)
    refine' have d_law_odd := FR.def_in (x := "_law_odd") (st := FR.s_law_odd) (ps := ["_law_pot_here", "_law_deep"]) KX G ?a ?l ?c ?k ?b; ?_
    (case a => k_is)
    (case l => k_is)
    (case c => k_is)
    (case k => k_is)
    (case b => exact fun _ _ _ _ _ _ us hl => match us, hl with | [_, _], _ => rfl)
    refine' have d_law_is_name := FR.def_in (x := "_law_is_name") (st := FR.s_law_is_name) (ps := ["_law_value"]) KX G ?a ?l ?c ?k ?b; ?_
    (case a => k_is)
    (case l => k_is)
    (case c => k_is)
    (case k => k_is)
    (case b => exact fun _ _ _ _ _ _ us hl => match us, hl with | [_], _ => rfl)
    refine' have d_law_is_counter := FR.def_in (x := "_law_is_counter") (st := FR.s_law_is_counter) (ps := ["_law_value"]) KX G ?a ?l ?c ?k ?b; ?_
    (case a => k_is)
    (case l => k_is)
    (case c => k_is)
    (case k => k_is)
    (case b => exact fun _ _ _ _ _ _ us hl => match us, hl with | [_], _ => rfl)
    refine' have d_law_are_counters := FR.def_in (x := "_law_are_counters") (st := FR.s_law_are_counters) (ps := ["_law_value"]) KX G ?a ?l ?c ?k ?b; ?_
    (case a => k_is)
    (case l => k_is)
    (case c => k_is)
    (case k => k_is)
    (case b => exact fun _ _ _ _ _ _ us hl => match us, hl with | [_], _ => rfl)
    refine' have d_law_is_right_setting := FR.def_in (x := "_law_is_right_setting") (st := FR.s_law_is_right_setting) (ps := ["_law_counters_here", "_law_value"]) KX G ?a ?l ?c ?k ?b; ?_
    (case a => k_is)
    (case l => k_is)
    (case c => k_is)
    (case k => k_is)
    (case b => exact fun _ _ _ _ _ _ us hl => match us, hl with | [_, _], _ => rfl)
    refine' have d_law_bent := FR.def_in (x := "_law_bent") (st := FR.s_law_bent) (ps := ["_law_pot_here", "_law_value"]) KX G ?a ?l ?c ?k ?b; ?_
    (case a => k_is)
    (case l => k_is)
    (case c => k_is)
    (case k => k_is)
    (case b => exact fun _ _ _ _ _ _ us hl => match us, hl with | [_, _], _ => rfl)
    refine' have d_law_right := FR.def_in (x := "_law_right") (st := FR.s_law_right) (ps := ["_law_pot_here"]) KX G ?a ?l ?c ?k ?b; ?_
    (case a => k_is)
    (case l => k_is)
    (case c => k_is)
    (case k => k_is)
    (case b => exact fun _ _ _ _ _ _ us hl => match us, hl with | [_], _ => rfl)
    have n_isinstance := FR.no_of (x := "isinstance") KX G (by k_is)
    have n_int := FR.no_of (x := "int") KX G (by k_is)
    have n_bool := FR.no_of (x := "bool") KX G (by k_is)
    have n_str := FR.no_of (x := "str") KX G (by k_is)
    have n_tuple := FR.no_of (x := "tuple") KX G (by k_is)
    have n_len := FR.no_of (x := "len") KX G (by k_is)
    have n_all := FR.no_of (x := "all") KX G (by k_is)
    have n_any := FR.no_of (x := "any") KX G (by k_is)
    have n_zip := FR.no_of (x := "zip") KX G (by k_is)
    have n_abs := FR.no_of (x := "abs") KX G (by k_is)
    have n_max := FR.no_of (x := "max") KX G (by k_is)
    have n_min := FR.no_of (x := "min") KX G (by k_is)
    have n_range := FR.no_of (x := "range") KX G (by k_is)
    have n_repr := FR.no_of (x := "repr") KX G (by k_is)
    have n_list := FR.no_of (x := "list") KX G (by k_is)
    have c_LETTERS : FR.Gc mg "LETTERS" (.str FR.letters) := by
      refine' FR.gc_of KX G ?a ?r
      (case a => k_is)
      (case r => exact ⟨_, rfl⟩)
    have c_MOST_LETTERS : FR.Gc mg "MOST_LETTERS" (.int 8) := by
      refine' FR.gc_of KX G ?a ?r
      (case a => k_is)
      (case r => exact ⟨_, rfl⟩)
    have c_MOST_COUNTERS : FR.Gc mg "MOST_COUNTERS" (.int 3) := by
      refine' FR.gc_of KX G ?a ?r
      (case a => k_is)
      (case r => exact ⟨_, rfl⟩)
    have c_LEAST_SIZE : FR.Gc mg "LEAST_SIZE" (.int 2) := by
      refine' FR.gc_of KX G ?a ?r
      (case a => k_is)
      (case r => exact ⟨_, rfl⟩)
    have c_MOST_SIZE : FR.Gc mg "MOST_SIZE" (.int 999) := by
      refine' FR.gc_of KX G ?a ?r
      (case a => k_is)
      (case r => exact ⟨_, rfl⟩)
    have T1 : FR.Txt1 mg := ⟨n_isinstance, n_int, n_bool, n_str, n_tuple, n_len, n_all, n_any, n_zip, c_LETTERS, c_MOST_LETTERS, c_MOST_COUNTERS, c_LEAST_SIZE, c_MOST_SIZE⟩
    have T : FR.Txt2 mg := ⟨T1, n_abs, n_max, n_min, n_range, n_repr, n_list⟩
    refine' have lw := FR.law_mk KX G hmg ?a ?l ?c ?k; ?_
    (case a => k_is)
    (case l => k_is)
    (case c => k_is)
    (case k => k_is)
    obtain ⟨fd, F, hb⟩ := lw
    refine ⟨fd, hb, fun base _ _ sysb => ?_⟩
    have h_is_integer := FR.ok_is_integer (P := (PySem.Challenge.rw_fitruns_k09_counters_and_settings_of_any).prog) (w := w) (base := base) T1 d_is_integer
    have h_is_name := FR.ok_is_name (P := (PySem.Challenge.rw_fitruns_k09_counters_and_settings_of_any).prog) (w := w) (base := base) T1 d_is_name
    have h_is_ascending := FR.ok_is_ascending (P := (PySem.Challenge.rw_fitruns_k09_counters_and_settings_of_any).prog) (w := w) (base := base) T1 d_is_ascending
    have h_are_kinds := FR.ok_are_kinds (P := (PySem.Challenge.rw_fitruns_k09_counters_and_settings_of_any).prog) (w := w) (base := base) T1 d_are_kinds h_is_name h_is_ascending
    have h_is_size := FR.ok_is_size (P := (PySem.Challenge.rw_fitruns_k09_counters_and_settings_of_any).prog) (w := w) (base := base) T1 d_is_size h_is_integer
    have h_is_counter := FR.ok_is_counter (P := (PySem.Challenge.rw_fitruns_k09_counters_and_settings_of_any).prog) (w := w) (base := base) T1 d_is_counter h_are_kinds h_is_size
    have h_is_counters := FR.ok_is_counters (P := (PySem.Challenge.rw_fitruns_k09_counters_and_settings_of_any).prog) (w := w) (base := base) T1 d_is_counters h_is_counter
    have h_check_counters := FR.ok_check_counters (P := (PySem.Challenge.rw_fitruns_k09_counters_and_settings_of_any).prog) (w := w) (base := base) T1 d_check_counters h_is_counters
    have h_law_pot := FR.ok_law_pot (P := (PySem.Challenge.rw_fitruns_k09_counters_and_settings_of_any).prog) (w := w) (base := base) T d_law_pot
    have h_law_take := FR.ok_law_take (P := (PySem.Challenge.rw_fitruns_k09_counters_and_settings_of_any).prog) (w := w) (base := base) T d_law_take
    have h_law_of := FR.ok_law_of (P := (PySem.Challenge.rw_fitruns_k09_counters_and_settings_of_any).prog) (w := w) (base := base) T d_law_of h_law_take
    have h_law_counters := FR.ok_law_counters (P := (PySem.Challenge.rw_fitruns_k09_counters_and_settings_of_any).prog) (w := w) (base := base) T d_law_counters h_law_take h_law_of
    have h_is_put := FR.ok_is_put (P := (PySem.Challenge.rw_fitruns_k09_counters_and_settings_of_any).prog) (w := w) (base := base) T1 d_is_put
    have h_is_place_by_place := FR.ok_is_place_by_place (P := (PySem.Challenge.rw_fitruns_k09_counters_and_settings_of_any).prog) (w := w) (base := base) T1 d_is_place_by_place h_is_put
    have h_is_setting := FR.ok_is_setting (P := (PySem.Challenge.rw_fitruns_k09_counters_and_settings_of_any).prog) (w := w) (base := base) T1 d_is_setting h_check_counters h_is_place_by_place
    have h_law_setting := FR.ok_law_setting (P := (PySem.Challenge.rw_fitruns_k09_counters_and_settings_of_any).prog) (w := w) (base := base) T d_law_setting h_law_of
    have h_law_odd := FR.ok_law_odd (P := (PySem.Challenge.rw_fitruns_k09_counters_and_settings_of_any).prog) (w := w) (base := base) T d_law_odd h_law_take h_law_of
    have h_law_is_name := FR.ok_law_is_name (P := (PySem.Challenge.rw_fitruns_k09_counters_and_settings_of_any).prog) (w := w) (base := base) T d_law_is_name
    have h_law_is_counter := FR.ok_law_is_counter (P := (PySem.Challenge.rw_fitruns_k09_counters_and_settings_of_any).prog) (w := w) (base := base) T d_law_is_counter h_law_is_name
    have h_law_are_counters := FR.ok_law_are_counters (P := (PySem.Challenge.rw_fitruns_k09_counters_and_settings_of_any).prog) (w := w) (base := base) T d_law_are_counters h_law_is_counter
    have h_law_is_right_setting := FR.ok_law_is_right_setting (P := (PySem.Challenge.rw_fitruns_k09_counters_and_settings_of_any).prog) (w := w) (base := base) T d_law_is_right_setting
    have h_law_bent := FR.ok_law_bent (P := (PySem.Challenge.rw_fitruns_k09_counters_and_settings_of_any).prog) (w := w) (base := base) T d_law_bent h_law_take h_law_of h_law_odd
    have h_law_right := FR.ok_law_right (P := (PySem.Challenge.rw_fitruns_k09_counters_and_settings_of_any).prog) (w := w) (base := base) T sysb d_law_right h_law_counters h_law_setting h_law_odd h_law_bent h_is_counters h_law_are_counters h_law_is_right_setting h_is_setting
    exact FR.ok_law T F h_law_pot h_law_right
