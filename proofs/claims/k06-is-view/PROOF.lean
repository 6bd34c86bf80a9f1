import PyProof.Rows.All
import Wide.All
import OpenK.AllK
import Wide.FinOn
import HandS.ForSpec
import HandS.ForMost
import HandS.IsInst
import HandS.Deep
import HandS.Conv
import HandS.TupAny
import HandS.TupMul
import PyProof.P3In
import HandS.Flow
import HandS.Zip
import HandS.Strs
import PyProof.ReprLen
import KE.GoesMore
import HandS.Iter
import HandS.SortInts
import KE.KTurns
import HandS.Comp
import HandS.Wide
import HandS.TryMany
import HandS.Dict
import HandS.Small
import PySem.Challenge.RW_looksfar_k06_is_view
set_option Elab.async false
set_option linter.all false
set_option maxRecDepth 100000
set_option maxHeartbeats 4000000
namespace L3
open PySem PySem.Spec PyProof.Rows L2
/-! ### values, with tuples by value -/
inductive D where
  | non | bl (b : Bool) | int (i : Int) | str (x : Str) | tup (ds : List D) | ref (a : Addr) | ty (n : String)
inductive MO where
  | lst (ds : List D) | ro (ds : List D) | dT (kvs : List (List Key × D)) | dK (kvs : List (Key × D))
abbrev MH := Addr → Option MO
abbrev En := List (Option D)
abbrev Fg := PySem.W.Frag
def updM (M : MH) (a : Addr) (o : MO) : MH := fun b => if b = a then some o else M b
theorem updM_same {M : MH} {a : Addr} {o : MO} : updM M a o a = some o := by unfold updM; rw [if_pos rfl]
theorem updM_ne {M : MH} {a b : Addr} {o : MO} (h : b ≠ a) : updM M a o b = M b := by unfold updM; rw [if_neg h]
theorem updM_updM {M : MH} {a : Addr} {o u : MO} : updM (updM M a o) a u = updM M a u := by
  funext b; unfold updM; split <;> rfl
theorem neM {M : MH} {a b : Addr} {o : MO} (h : M a = some o) (h' : M b = none) : a ≠ b := by
  intro e; subst e; rw [h] at h'; cases h'
/-- less is known -/
def Sub (M M' : MH) : Prop := ∀ b o, M b = some o → M' b = some o
theorem Sub.refl (M : MH) : Sub M M := fun _ _ h => h
theorem Sub.trans {M M1 M2 : MH} (a : Sub M M1) (b : Sub M1 M2) : Sub M M2 := fun c o h => b c o (a c o h)
theorem Sub.new {M M' : MH} {p : Addr} {o : MO} (s : Sub M M') (h : M p = none) : Sub M (updM M' p o) := fun b u e => by
  rw [updM_ne (neM e h)]
  exact s b u e
theorem Sub.free {M M' : MH} (s : Sub M M') {p : Addr} (h : M' p = none) : M p = none := by
  cases q : M p with
  | none => rfl
  | some o => rw [s p o q] at h; cases h
/-! ### tuples whose object is known: it has no dict of its own -/
def NewT (xs : List V) (H : Hp) (Q : VK) : Prop := ∀ (p : Addr) (o : Obj), H p = none → o.dict = none → Q (.ref p) (upd H p (.frz o (.tup xs)))
section
variable {X : Cx} {a : Expr} {es : List Expr} {pos p : Pos} {ta : TE} {t : TA}
theorem tup_pushed {pins : List (Addr × Obj)} {σ : L2.St} {H : Hp} {s : Shared} {Q : VK} {xs : List V} {its : List Value} (I : Inv X pins σ H s) (r : Vals xs its) (z : xs.length ≤ sizeLine) (q : NewT xs H Q) :
    EP X pins σ Q (.ref s.heap.objs.size) { s with heap := s.heap.push { cls := .type "tuple", data := .seq its.toArray } } :=
  ⟨.ref s.heap.objs.size, upd H s.heap.objs.size (.frz { cls := .type "tuple", data := .seq its.toArray } (.tup xs)), I.laid (t' := s.toks) (fun _ _ e => Heap.get?_push_of_some _ e) (Nat.le_refl _) ⟨Heap.get?_push_size _ rfl, z, its, r, ⟨_, Heap.get?_push_size _ rfl, rfl, _, rfl⟩⟩, rfl,
    q _ _ (I.hok.fresh (Nat.le_refl _)) rfl⟩
def tTupD (t : TA) : TE := fun σ H Q => t σ H fun xs H1 => xs.length ≤ sizeLine ∧ NewT xs H1 Q
theorem pe_tupD {x1} (h : PA X es t) : PE X (.Tuple es x1 pos) (tTupD t) :=
  ⟨fun pins s σ H Q I hq => wpAny_Tuple_spliced (thn (h.run pos pins s σ H _ I hq) fun us s1 ⟨xs, H1, I1, r, z, q⟩ => ⟨by rw [← r.length]; exact z, tup_pushed I1 r z q⟩)⟩
def rCatD (K : Fg) : R2 := fun x y H Q => ∃ a b xs ys, x = .ref a ∧ y = .ref b ∧ SqT K H a xs ∧ SqT K H b ys ∧ xs.length + ys.length ≤ sizeLine ∧ (xs = [] → Q (.ref b) H) ∧ (xs ≠ [] → ys = [] → Q (.ref a) H) ∧ (xs ≠ [] → ys ≠ [] → NewT (xs ++ ys) H Q)
theorem op_catD : OpR X (binaryOp .Add) (rCatD X.K) := by
  rintro pins s σ H x y v u Q I rx ry ⟨a, b, xs, ys, rfl, rfl, ha, hb, hz, q0, q1, q2⟩
  cases rx
  cases ry
  obtain ⟨its, r1, p1, _⟩ := I.tuple ha
  obtain ⟨its2, r2, p2, _⟩ := I.tuple hb
  by_cases hx : xs = []
  · subst hx
    cases r1
    exact cat_tup0 p1 p2 ⟨.ref b, H, I, rfl, q0 rfl⟩
  · exact HT.cat_tup p1 p2 (fun z => hx (r1.nil_iff.mp z)) (fun z => ⟨.ref a, H, I, rfl, q1 hx (r2.nil_iff.mp z)⟩) (fun z => tup_pushed I (r1.append r2) (by rw [List.length_append]; exact hz) (q2 hx fun w => z (r2.nil_iff.mpr w))) (by rw [← r1.length, ← r2.length]; exact hz)
def rSlD (K : Fg) : V → Option Int → Option Int → Hp → VK → Prop := fun x lo hi H Q => ∃ a xs, x = .ref a ∧ SqT K H a xs ∧ (HT.sIx xs.length 0 lo = 0 ∧ HT.sIx xs.length xs.length hi = xs.length → Q (.ref a) H) ∧
  (¬ (HT.sIx xs.length 0 lo = 0 ∧ HT.sIx xs.length xs.length hi = xs.length) → NewT (cutV xs lo hi) H Q)
theorem sl_tupD : SlR X (rSlD X.K) := by
  rintro pins s σ H x v vl vu lo hi sl Q I rx hs pl pu ⟨a, xs, rfl, hx, q1, q2⟩
  cases rx
  obtain ⟨its, r, ht, hz⟩ := I.tuple hx
  have hlen : its.toArray.size = xs.length := List.size_toArray.trans r.length.symm
  refine ⟨"tuple", _, PyProof.Rows.slot_tuple_getitem.lookup, ht.typeIs, ?_⟩
  by_cases hw : HT.sIx xs.length 0 lo = 0 ∧ HT.sIx xs.length xs.length hi = xs.length
  · exact getItem_tuple_whole ht hs pl pu (by rw [hlen]; exact hw) ⟨.ref a, H, I, rfl, q1 hw⟩
  · refine HT.getItem_tuple_cut ht hs pl pu (by rw [hlen]; exact hw) (hlen ▸ ?_) (by rw [hlen]; exact hz)
    exact tup_pushed I ((r.drop _).take _) (Nat.le_trans (cutV_length xs lo hi) hz) (q2 hw)
def kTupD (K : Fg) (x : V) (H : Hp) (Q : VK) : Prop := (∃ p xs, x = .ref p ∧ SqL K H p xs ∧ NewT xs H Q) ∨ (∃ p xs, x = .ref p ∧ SqT K H p xs ∧ Q (.ref p) H)
theorem rl_tupleD (pins : List (Addr × Obj)) (s : Shared) (σ : L2.St) (H : Hp) (x : V) (v : Value) (Q : VK) (I : Inv X pins σ H s) (r : RelV x v) (h : kTupD X.K x H Q) : wpAny (model X.prog X.w) X.A (call (.type "tuple") [v]) (EP X pins σ Q) X.xe s := by
  rcases h with ⟨p, xs, rfl, hs, q⟩ | ⟨p, xs, rfl, hs, q⟩
  · cases (show v = .ref p from r)
    obtain ⟨its, rv, pl, hz⟩ := I.list hs
    exact call_tuple_list pl.isList (fun h' hk => tup_pushed (I.kept (t' := s.toks) hk) rv hz q) (by rw [List.size_toArray, ← rv.length]; exact hz)
  · cases (show v = .ref p from r)
    exact call_tuple_tup (I.tuple hs).choose_spec.2.1 ⟨.ref p, H, I, rfl, q⟩
theorem pe_tupleD (hg : Gl X "tuple") (hm : X.mg "tuple" = none) (ha : PE X a ta) (na : starEach [a] X.env = (false, eval a X.env) :: starEach [] X.env := by rfl) : PE X (.Call (.Name "tuple" p) [a] [] pos) (tThen ta (kTupD X.K)) :=
  ⟨fun pins s σ H Q I h => Call_ (ld_blt I hg hm boot_tuple (PyProof.Rows.callWith_type1 (one_arg ha I h (fun v s2 x H2 I2 r q => rl_tupleD pins s2 σ H2 x v Q I2 r q) na) na))⟩
def rRepD (K : Fg) : R2 := fun x y H Q => ∃ l k xs, x = .ref l ∧ y = .int k ∧ SqT K H l xs ∧ xs ≠ [] ∧ 2 ≤ k ∧ k ≤ 1000 ∧ xs.length ≤ 1000 ∧ NewT (List.replicate k.toNat xs).flatten H Q
theorem op_repD : OpR X (binaryOp .Mult) (rRepD X.K) := by
  rintro pins s σ H x y v u Q I rx ry ⟨l, k, xs, rfl, rfl, hT, hne, h1, h2, hz, q⟩
  cases rx
  obtain ⟨t, rfl⟩ := ry
  obtain ⟨its, r, ⟨⟨cls, dd, data, sl⟩, ho, hc, n, hd⟩, hs⟩ := I.tuple hT
  simp only at hc hd
  subst hc hd
  have many : its.toArray.size = xs.length := List.size_toArray.trans r.length.symm
  have some_ : its.toArray.isEmpty = false := by
    cases its with
    | nil => exact absurd (List.eq_nil_of_length_eq_zero r.length) hne
    | cons _ _ => rfl
  have prod : ((its.toArray.size : Nat) : Int) * k ≤ 1000000 := by
    rw [many]
    have : ((xs.length : Nat) : Int) * k ≤ 1000 * k := Int.mul_le_mul_of_nonneg_right (by omega) (by omega)
    omega
  have flat : ∀ {α : Type} (ys : List α), ys.length = xs.length → (List.replicate k.toNat ys).flatten.length ≤ sizeLine := fun ys e => by
    rw [PyProof.Rows.lm_len_rep_flat, e, sizeLine_eq]
    have : k.toNat * xs.length ≤ 1000 * 1000 := Nat.mul_le_mul (by omega) hz
    omega
  have d0 : (decide (k < -(2 ^ 63)) || decide (k ≥ 2 ^ 63)) = false := by simp; omega
  have d1 : (its.toArray.isEmpty || k == 1) = false := by rw [some_, Bool.false_or]; exact beq_eq_false_iff_ne.mpr (by omega)
  have d2 : (decide (k ≤ 0) || its.toArray.isEmpty) = false := by rw [some_, Bool.or_false]; exact decide_eq_false (by omega)
  have d4 : Builtin.Tuple.tupleTooMany (((its.toArray.size : Nat) : Int) * k) = false := by unfold Builtin.Tuple.tupleTooMany; rw [sizeLine_eq]; exact decide_eq_false (by omega)
  have times : wpAny (model X.prog X.w) X.A (call (.builtin "tuple.__mul__") [.ref l, .int k t]) (EP X pins σ Q) X.xe s :=
    call_meets PySem.F.slot_tuple_mul ⟨_, ho, rfl⟩ PySem.F.entry_tuple_mul (PySem.F.args_tuple_mul_2 _ _) (tuple_mulW l its.toArray n dd sl k t d0 d1 d2 (by omega) d4 (by rw [size_rep, List.size_toArray]; exact flat its r.length.symm)) ⟨ho, by rw [size_rep]; exact tup_pushed I (r.rep k.toNat) (flat xs rfl) q⟩
  exact wpAny_binaryOp_repeat_ref (T := "tuple") (U := "int") (by decide) ⟨_, ho, rfl⟩ (fun s' => typeIs_int s' k t) noFill_tuple_mul PySem.F.fills_int_mul PySem.F.slot_int_rmul repeat_tuple PySem.F.slot_int_index.lookup
    (call_meets PySem.F.slot_int_rmul (typeIs_int s k t) PySem.F.entry_int_rmul (PySem.F.args_int_rmul_2 _ _) (int_rmul_tuple k t l its.toArray n dd sl) ⟨ho, rfl, ⟨_, ho, rfl⟩, times⟩)
/-- what is known of a tuple: its items, and that it has no dict -/
def Dl (K : Fg) (H : Hp) (a : Addr) : Prop := (∃ o u, H a = some (.frz o u) ∧ o.dict = none) ∨ ∃ o, K.lookup a = some o ∧ o.cls = .type "tuple" ∧ o.dict = none
def SqD (K : Fg) (H : Hp) (a : Addr) (vs : List V) : Prop := SqT K H a vs ∧ Dl K H a
theorem SqD.of {K : Fg} {H : Hp} {a : Addr} {o : Obj} {vs : List V} (h : o.dict = none) : SqD K (upd H a (.frz o (.tup vs))) a vs := ⟨.inl (.inr ⟨o, upd_same⟩), .inl ⟨o, _, upd_same, h⟩⟩
end
mutual
def Rv (K : Fg) (H : Hp) : D → V → Prop
  | .non, v => v = .non
  | .bl b, v => v = .bl b
  | .int i, v => v = .int i
  | .str x, v => v = .str x
  | .tup ds, v => ∃ a vs, v = .ref a ∧ SqD K H a vs ∧ Rvs K H ds vs
  | .ref a, v => v = .ref a
  | .ty n, v => v = .ty n
def Rvs (K : Fg) (H : Hp) : List D → List V → Prop
  | [], vs => vs = []
  | d :: ds, vs => ∃ v r, vs = v :: r ∧ Rv K H d v ∧ Rvs K H ds r
end
/-- tuples and locked things stay -/
structure Tps (H H' : Hp) : Prop where
  t : ∀ p xs, H p = some (.tup xs) → H' p = some (.tup xs)
  f : ∀ p o u, H p = some (.frz o u) → H' p = some (.frz o u)
theorem Tps.refl (H : Hp) : Tps H H := ⟨fun _ _ h => h, fun _ _ _ h => h⟩
theorem Tps.trans {H H1 H2 : Hp} (a : Tps H H1) (b : Tps H1 H2) : Tps H H2 := ⟨fun p xs h => b.t p xs (a.t p xs h), fun p o u h => b.f p o u (a.f p o u h)⟩
theorem Tps.new {H : Hp} {p : Addr} {o : HO} (h : H p = none) : Tps H (upd H p o) :=
  ⟨fun q xs e => by rw [upd_ne (ne_of_none e h)]; exact e, fun q u x e => by rw [upd_ne (ne_of_none e h)]; exact e⟩
theorem Tps.lst {H : Hp} {p : Addr} {o : HO} {vs : List V} (h : H p = some (.lst vs)) : Tps H (upd H p o) :=
  ⟨fun q xs e => by rw [upd_ne (ne_of e h (by intro z; cases z))]; exact e, fun q u x e => by rw [upd_ne (ne_of e h (by intro z; cases z))]; exact e⟩
theorem Tps.dT {H : Hp} {p : Addr} {o : HO} {vs : List (List Key × V)} (h : H p = some (.dT vs)) : Tps H (upd H p o) :=
  ⟨fun q xs e => by rw [upd_ne (ne_of e h (by intro z; cases z))]; exact e, fun q u x e => by rw [upd_ne (ne_of e h (by intro z; cases z))]; exact e⟩
theorem Tps.seq {K : Fg} {H H' : Hp} {a : Addr} {vs : List V} (t : Tps H H') (h : SqT K H a vs) : SqT K H' a vs := by
  rcases h with (h | ⟨o, h⟩) | h
  · exact .inl (.inl (t.t _ _ h))
  · exact .inl (.inr ⟨o, t.f _ _ _ h⟩)
  · exact .inr h
theorem Tps.sqd {K : Fg} {H H' : Hp} {a : Addr} {vs : List V} (t : Tps H H') (h : SqD K H a vs) : SqD K H' a vs := ⟨t.seq h.1, h.2.imp (fun ⟨o, u, e, d⟩ => ⟨o, u, t.f _ _ _ e, d⟩) id⟩
section
variable {K : Fg} {H H' : Hp}
mutual
theorem Rv.mono (t : Tps H H') : ∀ (d : D) (v : V), Rv K H d v → Rv K H' d v
  | .non, _, h => h
  | .bl _, _, h => h
  | .int _, _, h => h
  | .str _, _, h => h
  | .tup ds, v, h => by
    unfold Rv at h ⊢
    obtain ⟨a, vs, e, s, r⟩ := h
    exact ⟨a, vs, e, t.sqd s, Rvs.mono t ds vs r⟩
  | .ref _, _, h => h
  | .ty _, _, h => h
theorem Rvs.mono (t : Tps H H') : ∀ (ds : List D) (vs : List V), Rvs K H ds vs → Rvs K H' ds vs
  | [], _, h => h
  | d :: ds, vs, h => by
    unfold Rvs at h ⊢
    obtain ⟨v, r, e, h1, h2⟩ := h
    exact ⟨v, r, e, Rv.mono t d v h1, Rvs.mono t ds r h2⟩
end
theorem Rvs.nil : Rvs K H [] [] := by unfold Rvs; rfl
theorem Rvs.cons {d : D} {v : V} {ds : List D} {vs : List V} (h : Rv K H d v) (r : Rvs K H ds vs) : Rvs K H (d :: ds) (v :: vs) := by
  unfold Rvs
  exact ⟨v, vs, rfl, h, r⟩
theorem Rvs.length : ∀ {ds : List D} {vs : List V}, Rvs K H ds vs → ds.length = vs.length
  | [], _, h => by unfold Rvs at h; subst h; rfl
  | d :: ds, _, h => by
    unfold Rvs at h
    obtain ⟨v, r, rfl, _, h2⟩ := h
    rw [List.length_cons, List.length_cons, Rvs.length h2]
theorem Rvs.get : ∀ {ds : List D} {vs : List V} {i : Nat} {d : D}, Rvs K H ds vs → ds[i]? = some d → ∃ v, vs[i]? = some v ∧ Rv K H d v
  | [], _, _, _, _, e => by simp at e
  | d :: ds, _, 0, _, h, e => by
    unfold Rvs at h
    obtain ⟨v, r, rfl, h1, _⟩ := h
    simp at e
    subst e
    exact ⟨v, rfl, h1⟩
  | d :: ds, _, i + 1, x, h, e => by
    unfold Rvs at h
    obtain ⟨v, r, rfl, _, h2⟩ := h
    obtain ⟨w, e1, e2⟩ := Rvs.get (i := i) (d := x) h2 (by simpa using e)
    exact ⟨w, by simpa using e1, e2⟩
theorem Rvs.app : ∀ {ds es : List D} {vs ws : List V}, Rvs K H ds vs → Rvs K H es ws → Rvs K H (ds ++ es) (vs ++ ws)
  | [], _, _, _, h, s => by unfold Rvs at h; subst h; exact s
  | d :: ds, es, _, ws, h, s => by
    unfold Rvs at h
    obtain ⟨v, r, rfl, h1, h2⟩ := h
    exact Rvs.cons h1 (Rvs.app h2 s)
theorem Rvs.take : ∀ {ds : List D} {vs : List V} (n : Nat), Rvs K H ds vs → Rvs K H (ds.take n) (vs.take n)
  | _, _, 0, _ => by simpa using Rvs.nil
  | [], _, n + 1, h => by unfold Rvs at h; subst h; simpa using Rvs.nil
  | d :: ds, _, n + 1, h => by
    unfold Rvs at h
    obtain ⟨v, r, rfl, h1, h2⟩ := h
    exact Rvs.cons h1 (Rvs.take n h2)
theorem Rvs.drop : ∀ {ds : List D} {vs : List V} (n : Nat), Rvs K H ds vs → Rvs K H (ds.drop n) (vs.drop n)
  | _, _, 0, h => h
  | [], _, n + 1, h => by unfold Rvs at h; subst h; simpa using Rvs.nil
  | d :: ds, _, n + 1, h => by
    unfold Rvs at h
    obtain ⟨v, r, rfl, _, h2⟩ := h
    exact Rvs.drop n h2
theorem Rvs.set {d : D} {v : V} (q : Rv K H d v) : ∀ {ds : List D} {vs : List V} (n : Nat), Rvs K H ds vs → Rvs K H (ds.set n d) (vs.set n v)
  | [], _, n, h => by unfold Rvs at h; subst h; simpa using Rvs.nil
  | x :: ds, _, 0, h => by
    unfold Rvs at h
    obtain ⟨w, r, rfl, _, h2⟩ := h
    exact Rvs.cons q h2
  | x :: ds, _, n + 1, h => by
    unfold Rvs at h
    obtain ⟨w, r, rfl, h1, h2⟩ := h
    exact Rvs.cons h1 (Rvs.set q n h2)
theorem Rvs.nil_inv {vs : List V} (h : Rvs K H [] vs) : vs = [] := by unfold Rvs at h; exact h
theorem Rvs.cons_inv {d : D} {ds : List D} {vs : List V} (h : Rvs K H (d :: ds) vs) : ∃ v r, vs = v :: r ∧ Rv K H d v ∧ Rvs K H ds r := by unfold Rvs at h; exact h
theorem Rv.tup_invD {ds : List D} {v : V} (h : Rv K H (.tup ds) v) : ∃ a vs, v = .ref a ∧ SqD K H a vs ∧ Rvs K H ds vs := by unfold Rv at h; exact h
theorem Rv.tup_inv {ds : List D} {v : V} (h : Rv K H (.tup ds) v) : ∃ a vs, v = .ref a ∧ SqT K H a vs ∧ Rvs K H ds vs := by unfold Rv at h; obtain ⟨a, vs, e, s, r⟩ := h; exact ⟨a, vs, e, s.1, r⟩
theorem Rv.int_inv {i : Int} {v : V} (h : Rv K H (.int i) v) : v = .int i := by unfold Rv at h; exact h
theorem Rv.bl_inv {b : Bool} {v : V} (h : Rv K H (.bl b) v) : v = .bl b := by unfold Rv at h; exact h
theorem Rv.str_inv {x : Str} {v : V} (h : Rv K H (.str x) v) : v = .str x := by unfold Rv at h; exact h
theorem Rv.non_inv {v : V} (h : Rv K H .non v) : v = .non := by unfold Rv at h; exact h
theorem Rv.ref_inv {a : Addr} {v : V} (h : Rv K H (.ref a) v) : v = .ref a := by unfold Rv at h; exact h
theorem Rv.ty_inv {n : String} {v : V} (h : Rv K H (.ty n) v) : v = .ty n := by unfold Rv at h; exact h
theorem Rv.int {i : Int} : Rv K H (.int i) (.int i) := by unfold Rv; rfl
theorem Rv.bl {b : Bool} : Rv K H (.bl b) (.bl b) := by unfold Rv; rfl
theorem Rv.str {x : Str} : Rv K H (.str x) (.str x) := by unfold Rv; rfl
theorem Rv.non : Rv K H .non .non := by unfold Rv; rfl
theorem Rv.ref {a : Addr} : Rv K H (.ref a) (.ref a) := by unfold Rv; rfl
theorem Rv.ty {n : String} : Rv K H (.ty n) (.ty n) := by unfold Rv; rfl
theorem Rv.tup {ds : List D} {a : Addr} {vs : List V} (s : SqD K H a vs) (r : Rvs K H ds vs) : Rv K H (.tup ds) (.ref a) := by unfold Rv; exact ⟨a, vs, rfl, s, r⟩
theorem Rvs.ints : ∀ {ns : List Int}, Rvs K H (ns.map D.int) (ns.map V.int)
  | [] => Rvs.nil
  | n :: ns => Rvs.cons Rv.int Rvs.ints
end
/-- an object as it is known -/
def RO (K : Fg) (H : Hp) (a : Addr) : MO → Prop
  | .lst ds => ∃ vs, H a = some (.lst vs) ∧ Rvs K H ds vs
  | .ro ds => ∃ vs o, H a = some (.frz o (.lst vs)) ∧ Rvs K H ds vs
  | .dT kvs => ∃ ks vs, H a = some (.dT ks) ∧ ks.map (·.1) = kvs.map (·.1) ∧ vs = ks.map (·.2) ∧ Rvs K H (kvs.map (·.2)) vs
  | .dK kvs => ∃ ks vs, H a = some (.dK ks) ∧ ks.map (·.1) = kvs.map (·.1) ∧ vs = ks.map (·.2) ∧ Rvs K H (kvs.map (·.2)) vs
def Abs (K : Fg) (M : MH) (H : Hp) : Prop := ∀ a o, M a = some o → RO K H a o
section
variable {K : Fg} {H H' : Hp} {M M' : MH} {a p : Addr}
theorem RO.mono (t : Tps H H') (e : H' a = H a) : ∀ (o : MO), RO K H a o → RO K H' a o
  | .lst ds, h => by obtain ⟨vs, h1, h2⟩ := h; exact ⟨vs, e.trans h1, h2.mono t⟩
  | .ro ds, h => by obtain ⟨vs, o, h1, h2⟩ := h; exact ⟨vs, o, e.trans h1, h2.mono t⟩
  | .dT ds, h => by obtain ⟨ks, vs, h1, h2, h3, h4⟩ := h; exact ⟨ks, vs, e.trans h1, h2, h3, h4.mono t⟩
  | .dK ds, h => by obtain ⟨ks, vs, h1, h2, h3, h4⟩ := h; exact ⟨ks, vs, e.trans h1, h2, h3, h4.mono t⟩
theorem RO.some (o : MO) (h : RO K H a o) : H a ≠ none := by
  cases o with
  | lst ds => obtain ⟨vs, h1, _⟩ := h; rw [h1]; intro z; cases z
  | ro ds => obtain ⟨vs, o, h1, _⟩ := h; rw [h1]; intro z; cases z
  | dT ds => obtain ⟨ks, vs, h1, _⟩ := h; rw [h1]; intro z; cases z
  | dK ds => obtain ⟨ks, vs, h1, _⟩ := h; rw [h1]; intro z; cases z
theorem Abs.sub (h : Abs K M' H) (s : Sub M M') : Abs K M H := fun a o e => h a o (s a o e)
theorem Abs.fresh (h : Abs K M H) (e : H p = none) : M p = none := by
  cases q : M p with
  | none => rfl
  | some o => exact absurd e ((h p o q).some)
/-- a new untracked thing (a tuple) -/
theorem Abs.tupN (h : Abs K M H) {o : HO} (e : H p = none) : Abs K M (upd H p o) := fun a u q => (h a u q).mono (Tps.new e) (upd_ne (neM q (h.fresh e)))
theorem Abs.upd (h : Abs K M H) {o : HO} {u : MO} (t : Tps H (L2.upd H p o)) (r : RO K (L2.upd H p o) p u) : Abs K (updM M p u) (L2.upd H p o) := fun a x q => by
  by_cases hb : a = p
  · subst hb
    rw [updM_same] at q
    cases q
    exact r
  · rw [updM_ne hb] at q
    exact (h a x q).mono t (upd_ne hb)
theorem Abs.lstN (h : Abs K M H) {ds : List D} {vs : List V} (e : H p = none) (r : Rvs K H ds vs) : Abs K (updM M p (.lst ds)) (L2.upd H p (.lst vs)) :=
  h.upd (Tps.new e) ⟨vs, upd_same, r.mono (Tps.new e)⟩
theorem Abs.lstU (h : Abs K M H) {ds : List D} {vs ws : List V} (e : H p = some (.lst ws)) (r : Rvs K H ds vs) : Abs K (updM M p (.lst ds)) (L2.upd H p (.lst vs)) :=
  h.upd (Tps.lst e) ⟨vs, upd_same, r.mono (Tps.lst e)⟩
theorem Abs.lst (h : Abs K M H) {ds : List D} (e : M p = some (.lst ds)) : ∃ vs, H p = some (.lst vs) ∧ Rvs K H ds vs := h p _ e
/-- a list that is read -/
def LstM (M : MH) (a : Addr) (ds : List D) : Prop := M a = some (.lst ds) ∨ M a = some (.ro ds)
theorem Abs.rd (h : Abs K M H) {ds : List D} (e : LstM M p ds) : ∃ vs, SqL K H p vs ∧ Rvs K H ds vs := by
  rcases e with e | e
  · obtain ⟨vs, h1, h2⟩ := h p _ e
    exact ⟨vs, .inl (.inl h1), h2⟩
  · obtain ⟨vs, o, h1, h2⟩ := h p _ e
    exact ⟨vs, .inl (.inr ⟨o, h1⟩), h2⟩
end
/-- the names -/
structure SE (K : Fg) (H : Hp) (σ : L2.St) (env : En) : Prop where
  len : σ.length = env.length
  get : ∀ (i : Nat) (d : D), env[i]? = some (some d) → ∃ v, σ[i]? = some (some v) ∧ Rv K H d v
section
variable {K : Fg} {H H' : Hp} {σ : L2.St} {env : En}
theorem SE.mono (s : SE K H σ env) (t : Tps H H') : SE K H' σ env := ⟨s.len, fun i d e => let ⟨v, e1, r⟩ := s.get i d e; ⟨v, e1, r.mono t⟩⟩
theorem SE.set (s : SE K H σ env) {d : D} {v : V} (i : Nat) (r : Rv K H d v) : SE K H (σ.set i (some v)) (env.set i (some d)) := by
  refine ⟨by simpa using s.len, fun j x e => ?_⟩
  rw [List.getElem?_set] at e
  by_cases hj : i = j
  · subst hj
    rw [if_pos rfl] at e
    by_cases hl : i < env.length
    · rw [if_pos hl] at e
      cases e
      exact ⟨v, by rw [List.getElem?_set_self (by rw [s.len]; exact hl)], r⟩
    · rw [if_neg hl] at e
      cases e
  · rw [if_neg hj] at e
    obtain ⟨w, e1, r1⟩ := s.get j x e
    exact ⟨w, by rw [List.getElem?_set_ne hj]; exact e1, r1⟩
theorem SE.unset (s : SE K H σ env) (i : Nat) : SE K H (σ.set i none) (env.set i none) := by
  refine ⟨by simpa using s.len, fun j x e => ?_⟩
  rw [List.getElem?_set] at e
  by_cases hj : i = j
  · subst hj
    rw [if_pos rfl] at e
    split at e <;> cases e
  · rw [if_neg hj] at e
    obtain ⟨w, e1, r1⟩ := s.get j x e
    exact ⟨w, by rw [List.getElem?_set_ne hj]; exact e1, r1⟩
/-- names forgotten -/
def wipeE (env : En) : List Nat → En
  | [] => env
  | i :: r => wipeE (env.set i none) r
theorem SE.start {ds : List D} {vs : List V} (N : List Str) (r : Rvs K H ds vs) : SE K H (L2.start N vs) (ds.map some ++ List.replicate (N.length - ds.length) none) := by
  have hl := r.length
  refine ⟨by unfold L2.start; simp [hl], fun i d e => ?_⟩
  unfold L2.start
  by_cases hi : i < ds.length
  · rw [List.getElem?_append_left (by simpa using hi), List.getElem?_map] at e
    cases q : ds[i]? with
    | none => rw [q] at e; cases e
    | some x =>
      rw [q] at e
      cases e
      obtain ⟨v, e1, r1⟩ := r.get q
      exact ⟨v, by rw [List.getElem?_append_left (by rw [List.length_map, ← hl]; exact hi), List.getElem?_map, e1]; rfl, r1⟩
  · rw [List.getElem?_append_right (by simpa using hi), List.getElem?_replicate] at e
    split at e <;> cases e
end
/-! ### wishes -/
abbrev W3 := Value → Option Addr → En → MH → Prop
def LW (K : Fg) (H : Hp) (W : W3) (W2 : WX) : Prop := ∀ cls dd σ' H' env' M', Tps H H' → SE K H' σ' env' → Abs K M' H' → W cls dd env' M' → W2 cls dd σ' H'
theorem LW.mono {K : Fg} {H H' : Hp} {W : W3} {W2 : WX} (l : LW K H W W2) (t : Tps H H') : LW K H' W W2 := fun cls dd σ' H2 env' M' t2 s a w => l cls dd σ' H2 env' M' (t.trans t2) s a w
abbrev Q3 := D → MH → Prop
abbrev E3 := W3 → En → MH → Q3 → Prop
abbrev T3 := W3 → En → MH → (Bool → MH → Prop) → Prop
abbrev A3 := W3 → En → MH → (List D → MH → Prop) → Prop
structure Ends3 where
  nx : En → MH → Prop
  rt : Q3
  bk : En → MH → Prop := fun _ _ => False
  ct : En → MH → Prop := fun _ _ => False
abbrev S3 := W3 → Ends3 → En → MH → Prop
abbrev G3 := W3 → D → En → MH → (En → MH → Prop) → Prop
abbrev I3 := W3 → En → MH → (List D → (MH → Prop) → MH → Prop) → Prop
/-- a value has come -/
def Got (K : Fg) (H : Hp) (Q : Q3) (Q2 : VK) : Prop := ∀ d v H' M', Tps H H' → Abs K M' H' → Rv K H' d v → Q d M' → Q2 v H'
def lowE (K : Fg) (W2 : WX) (t : E3) : TE := fun σ H Q2 => ∃ env M W Q, SE K H σ env ∧ Abs K M H ∧ LW K H W W2 ∧ t W env M Q ∧ Got K H Q Q2
def lowT (K : Fg) (W2 : WX) (t : T3) : TT := fun σ H Q2 => ∃ env M W Q, SE K H σ env ∧ Abs K M H ∧ LW K H W W2 ∧ t W env M Q ∧ ∀ b H' M', Tps H H' → Abs K M' H' → Q b M' → Q2 b H'
def lowA (K : Fg) (W2 : WX) (t : A3) : TA := fun σ H Q2 => ∃ env M W Q, SE K H σ env ∧ Abs K M H ∧ LW K H W W2 ∧ t W env M Q ∧ ∀ ds vs H' M', Tps H H' → Abs K M' H' → Rvs K H' ds vs → Q ds M' → Q2 vs H'
def Nxt (K : Fg) (H : Hp) (q : En → MH → Prop) (q2 : L2.St → Hp → Prop) : Prop := ∀ σ' H' env' M', Tps H H' → SE K H' σ' env' → Abs K M' H' → q env' M' → q2 σ' H'
structure LE (K : Fg) (H : Hp) (D3 : Ends3) (D2 : Ends) : Prop where
  nx : Nxt K H D3.nx D2.nx
  rt : Got K H D3.rt D2.rt
  bk : Nxt K H D3.bk D2.bk
  ct : Nxt K H D3.ct D2.ct
theorem Got.mono {K : Fg} {H H' : Hp} {Q : Q3} {Q2 : VK} (g : Got K H Q Q2) (t : Tps H H') : Got K H' Q Q2 := fun d v H2 M' t2 a r q => g d v H2 M' (t.trans t2) a r q
theorem Nxt.mono {K : Fg} {H H' : Hp} {q : En → MH → Prop} {q2 : L2.St → Hp → Prop} (g : Nxt K H q q2) (t : Tps H H') : Nxt K H' q q2 := fun σ H2 e M' t2 s a r => g σ H2 e M' (t.trans t2) s a r
theorem LE.mono {K : Fg} {H H' : Hp} {D3 : Ends3} {D2 : Ends} (l : LE K H D3 D2) (t : Tps H H') : LE K H' D3 D2 := ⟨l.nx.mono t, l.rt.mono t, l.bk.mono t, l.ct.mono t⟩
def lowS (K : Fg) (W2 : WX) (t : S3) : TS := fun D2 σ H => ∃ env M W D3, SE K H σ env ∧ Abs K M H ∧ LW K H W W2 ∧ t W D3 env M ∧ LE K H D3 D2
def lowG (K : Fg) (W2 : WX) (t : G3) : TG := fun v σ H Q2 => ∃ d env M W Q, Rv K H d v ∧ SE K H σ env ∧ Abs K M H ∧ LW K H W W2 ∧ t W d env M Q ∧ Nxt K H Q Q2
/-- what the iterator J gives: ds, while keep is true -/
structure ItOk (K : Fg) (H1 : Hp) (ds : List D) (keep : MH → Prop) (J : It) : Prop where
  step : ∀ i d H M, ds[i]? = some d → Tps H1 H → Abs K M H → keep M → J.go i H ∧ ∀ x H', J.yld i H x H' → Tps H H' ∧ Abs K M H' ∧ Rv K H' d x
  stop : ∀ H M, Tps H1 H → Abs K M H → keep M → J.stop ds.length H
def lowI (K : Fg) (W2 : WX) (t : I3) : TI := fun σ H R => ∃ env M W Q, SE K H σ env ∧ Abs K M H ∧ LW K H W W2 ∧ t W env M Q ∧ ∀ ds keep J H' M', Tps H H' → Abs K M' H' → Q ds keep M' → ItOk K H' ds keep J → R J H'
/-! ### the judgements -/
def DE (X : Cx) (e : Expr) (t : E3) : Prop := ∀ W2, Takes X W2 → PE X e (lowE X.K W2 t)
def DT (X : Cx) (e : Expr) (t : T3) : Prop := ∀ W2, Takes X W2 → PT X e (lowT X.K W2 t)
def DW (X : Cx) (e : Expr) (t : T3) : Prop := ∀ W2, Takes X W2 → PW X e (lowT X.K W2 t)
def DA (X : Cx) (es : List Expr) (t : A3) : Prop := ∀ W2, Takes X W2 → PA X es (lowA X.K W2 t)
def DG (X : Cx) (e : Expr) (t : G3) : Prop := ∀ W2, Takes X W2 → PG X e (lowG X.K W2 t)
def DI (X : Cx) (tg e : Expr) (t : I3) : Prop := ∀ W2, Takes X W2 → PI X tg e (lowI X.K W2 t)
def Pass (X : Cx) : Prop := PassesOwn (model X.prog X.w) X.A X.env X.xe
def DS (X : Cx) (st : Stmt) (t : S3) : Prop := ∀ W2, Takes X W2 → Pass X → PS X st (lowS X.K W2 t)
def DSs (X : Cx) (st : List Stmt) (t : S3) : Prop := ∀ W2, Takes X W2 → Pass X → PSs X st (lowS X.K W2 t)
theorem _root_.L2.PE.imp {X : Cx} {e : Expr} {t t' : TE} (h : PE X e t) (k : ∀ σ H Q, t' σ H Q → t σ H Q) : PE X e t' := ⟨fun pins s σ H Q I q => h.run pins s σ H Q I (k σ H Q q)⟩
theorem _root_.L2.PT.imp {X : Cx} {e : Expr} {t t' : TT} (h : PT X e t) (k : ∀ σ H Q, t' σ H Q → t σ H Q) : PT X e t' := ⟨fun pins s σ H Q I q => h.run pins s σ H Q I (k σ H Q q)⟩
theorem _root_.L2.PW.imp {X : Cx} {e : Expr} {t t' : TT} (h : PW X e t) (k : ∀ σ H Q, t' σ H Q → t σ H Q) : PW X e t' := ⟨fun wh pins s σ H Q I q => h.run wh pins s σ H Q I (k σ H Q q)⟩
theorem _root_.L2.PA.imp {X : Cx} {e : List Expr} {t t' : TA} (h : PA X e t) (k : ∀ σ H Q, t' σ H Q → t σ H Q) : PA X e t' := ⟨fun pos pins s σ H Q I q => h.run pos pins s σ H Q I (k σ H Q q)⟩
theorem _root_.L2.PG.imp {X : Cx} {e : Expr} {t t' : TG} (h : PG X e t) (k : ∀ v σ H Q, t' v σ H Q → t v σ H Q) : PG X e t' := ⟨fun pins s σ H v u Q I r q => h.run pins s σ H v u Q I r (k v σ H Q q)⟩
theorem _root_.L2.PI.imp {X : Cx} {tg e : Expr} {t t' : TI} (h : PI X tg e t) (k : ∀ σ H Q, t' σ H Q → t σ H Q) : PI X tg e t' := ⟨fun pins s σ H Q I q => h.run pins s σ H Q I (k σ H Q q)⟩
theorem _root_.L2.PS.imp {X : Cx} {e : Stmt} {t t' : TS} (h : PS X e t) (k : ∀ D σ H, t' D σ H → t D σ H) : PS X e t' := ⟨fun pins s σ H D I q => h.run pins s σ H D I (k D σ H q)⟩
theorem _root_.L2.PSs.imp {X : Cx} {e : List Stmt} {t t' : TS} (h : PSs X e t) (k : ∀ D σ H, t' D σ H → t D σ H) : PSs X e t' := ⟨fun pins s σ H D I q => h.run pins s σ H D I (k D σ H q)⟩
theorem _root_.L2.PE.or {X : Cx} {e : Expr} {t t' : TE} (h : PE X e t) (h' : PE X e t') : PE X e (fun σ H Q => t σ H Q ∨ t' σ H Q) := ⟨fun pins s σ H Q I q => q.elim (h.run pins s σ H Q I) (h'.run pins s σ H Q I)⟩
theorem _root_.L2.PI.or {X : Cx} {tg e : Expr} {t t' : TI} (h : PI X tg e t) (h' : PI X tg e t') : PI X tg e (fun σ H Q => t σ H Q ∨ t' σ H Q) := ⟨fun pins s σ H Q I q => q.elim (h.run pins s σ H Q I) (h'.run pins s σ H Q I)⟩
section
variable {K : Fg} {W2 : WX} {σ : L2.St} {H : Hp} {env : En} {M : MH} {W : W3} {t : E3} {Q : Q3} {Q2 : VK}
/-- handing on to a part -/
theorem toE (s : SE K H σ env) (a : Abs K M H) (l : LW K H W W2) (q : t W env M Q) (g : Got K H Q Q2) : lowE K W2 t σ H Q2 := ⟨env, M, W, Q, s, a, l, q, g⟩
end
end L3

namespace L3
open PySem PySem.Spec PyProof.Rows L2
/-- by cases on a bool -/
def Br (b : Bool) (A B : Prop) : Prop := (b = true → A) ∧ (b = false → B)
theorem Br.tt {A B : Prop} (h : A) : Br true A B := ⟨fun _ => h, (fun e => nomatch e)⟩
theorem Br.ff {A B : Prop} (h : B) : Br false A B := ⟨(fun e => nomatch e), fun _ => h⟩
theorem Br.yes {b : Bool} {A B : Prop} (e : b = true) (h : A) : Br b A B := by subst e; exact Br.tt h
theorem Br.no {b : Bool} {A B : Prop} (e : b = false) (h : B) : Br b A B := by subst e; exact Br.ff h
theorem Br.ite {b : Bool} {A B : Prop} (h : Br b A B) : if b = true then A else B := by
  cases b with
  | true => rw [if_pos rfl]; exact h.1 rfl
  | false => rw [if_neg Bool.false_ne_true]; exact h.2 rfl
section
variable {X : Cx} {e a b c : Expr} {es : List Expr} {pos p : Pos} {t ta tb tc : E3}
/-! ### names, constants -/
def e3Var (i : Nat) : E3 := fun _ env M Q => match env[i]? with | some (some d) => Q d M | _ => False
def e3C (d : D) : E3 := fun _ _ M Q => Q d M
theorem d_of_tC {v : V} {d : D} (h : PE X e (tC v)) (r : ∀ H, Rv X.K H d v) : DE X e (e3C d) := fun W2 _ => h.imp fun σ H Q2 ⟨env, M, W, Q, s, a, l, q, g⟩ => g d v H M (Tps.refl H) a (r H) q
theorem dv (i : Nat) {x : Str} (hN : X.N[i]? = some x := by rfl) (hv : Vis X.env.scope x := by first | exact Or.inl rfl | exact Or.inr (Or.inl rfl) | exact Or.inr (Or.inr rfl)) (hd : (x == ("__debug__" : Str)) = false := by decide)
    (hcd : (x == ("__classdict__" : Str)) = false := by decide) : DE X (.Name x pos) (e3Var i) := fun W2 _ => (pe_var (i := i) hN hv hd hcd).imp fun σ H Q2 ⟨env, M, W, Q, s, a, l, q, g⟩ => by
  unfold e3Var at q
  split at q
  · rename_i d e
    obtain ⟨v, e1, r⟩ := s.get i d e
    exact ⟨v, e1, g d v H M (Tps.refl H) a r q⟩
  · exact q.elim
theorem d_int {i : Int} {j} : DE X (.Constant (.int i) j pos) (e3C (.int i)) := d_of_tC pe_int fun _ => Rv.int
theorem d_bl {i : Bool} {j} : DE X (.Constant (.bool i) j pos) (e3C (.bl i)) := d_of_tC pe_bl fun _ => Rv.bl
theorem d_non {j} : DE X (.Constant .none j pos) (e3C .non) := d_of_tC pe_non fun _ => Rv.non
theorem d_str {x : Str} {j} : DE X (.Constant (.str x) j pos) (e3C (.str x)) := d_of_tC pe_str fun _ => Rv.str
theorem d_globI {x : Str} {i : Int} {u : Value} (hg : Gl X x) (hm : X.mg x = some u) (r : RelV (.int i) u) (hd : (x == ("__debug__" : Str)) = false := by decide) : DE X (.Name x pos) (e3C (.int i)) := d_of_tC (pe_glob hg hm r hd) fun _ => Rv.int
theorem d_globC {x : Str} {C : Addr} (hg : Gl X x) (hm : X.mg x = some (.ref C)) (hd : (x == ("__debug__" : Str)) = false := by decide) : DE X (.Name x pos) (e3C (.ref C)) := d_of_tC (pe_glob hg hm (v := .ref C) rfl hd) fun _ => Rv.ref
theorem d_ty {x : Str} {n : String} (hg : Gl X x) (hm : X.mg x = none) (hv : bootBuiltins x = some (.type n)) (hn : x ≠ "__name__" := by decide) (hd : (x == ("__debug__" : Str)) = false := by decide) : DE X (.Name x pos) (e3C (.ty n)) :=
  d_of_tC (pe_bltn hg hm hv (v := .ty n) rfl hn hd) fun _ => Rv.ty
/-! ### operators -/
def OpL (K : Fg) (r : R2) (r3 : D → D → MH → Q3 → Prop) : Prop := ∀ d e v u H M Q Q2, Rv K H d v → Rv K H e u → Abs K M H → r3 d e M Q → Got K H Q Q2 → r v u H Q2
def e3Op (r3 : D → D → MH → Q3 → Prop) (ta tb : E3) : E3 := fun W env M Q => ta W env M fun d M1 => tb W env M1 fun e M2 => r3 d e M2 Q
theorem op_low {r : R2} {r3 : D → D → MH → Q3 → Prop} {W2 : WX} (hl : OpL X.K r r3) {σ : L2.St} {H : Hp} {Q2 : VK} (h : lowE X.K W2 (e3Op r3 ta tb) σ H Q2) : tOp r (lowE X.K W2 ta) (lowE X.K W2 tb) σ H Q2 := by
  obtain ⟨env, M, W, Q, s, a, l, q, g⟩ := h
  refine ⟨env, M, W, _, s, a, l, q, fun d v H1 M1 t1 a1 r1 q1 => ?_⟩
  exact ⟨env, M1, W, _, s.mono t1, a1, l.mono t1, q1, fun e u H2 M2 t2 a2 r2 q2 => hl d e v u H2 M2 Q Q2 (r1.mono t2) r2 a2 q2 (g.mono (t1.trans t2))⟩
theorem d_op {op : Operator} {r : R2} {r3 : D → D → MH → Q3 → Prop} (ho : OpR X (binaryOp op) r) (hl : OpL X.K r r3) (ha : DE X a ta) (hb : DE X b tb) : DE X (.BinOp a op b pos) (e3Op r3 ta tb) :=
  fun W2 tk => (pe_op ho (ha W2 tk) (hb W2 tk)).imp fun σ H Q2 h => op_low hl h
theorem d_cmp {op : CmpOp} {r : R2} {r3 : D → D → MH → Q3 → Prop} (ho : OpR X (compareOp op) r) (hl : OpL X.K r r3) (ha : DE X a ta) (hb : DE X b tb) (hm : behindInMarks op b = false := by first | exact nomark _ | with_unfolding_all rfl | rfl) : DE X (.Compare a [op] [b] pos) (e3Op r3 ta tb) :=
  fun W2 tk => (pe_cmpR ho (ha W2 tk) (hb W2 tk) hm).imp fun σ H Q2 h => op_low hl h
def t3Test (t : E3) : T3 := fun W env M Q => t W env M fun d M1 => match d with | .bl b => Q b M1 | _ => False
theorem test_low {W2 : WX} {σ : L2.St} {H : Hp} {Q2 : Bool → Hp → Prop} (h : lowT X.K W2 (t3Test t) σ H Q2) : lowE X.K W2 t σ H (fun x H' => ∃ k, x = .bl k ∧ Q2 k H') := by
  obtain ⟨env, M, W, Q, s, a, l, q, g⟩ := h
  refine ⟨env, M, W, _, s, a, l, q, fun d v H1 M1 t1 a1 r1 q1 => ?_⟩
  cases d with
  | bl b => exact ⟨b, r1.bl_inv, g b H1 M1 t1 a1 q1⟩
  | _ => exact q1.elim
theorem t_cmp {op : CmpOp} {r : R2} {r3 : D → D → MH → Q3 → Prop} (ho : OpR X (compareOp op) r) (hl : OpL X.K r r3) (ha : DE X a ta) (hb : DE X b tb) (hm : behindInMarks op b = false := by first | exact nomark _ | with_unfolding_all rfl | rfl) : DT X (.Compare a [op] [b] pos) (t3Test (e3Op r3 ta tb)) :=
  fun W2 tk => (pt_cmpR ho (ha W2 tk) (hb W2 tk) hm).imp fun σ H Q2 h => op_low hl (test_low h)
theorem t_val (h : DE X e t) (he : ∀ whole, isTrue e X.env whole = (do let v ← whole; standAt e.pos; holding [v] (truthy v)) := by intro _; rfl) : DT X e (t3Test t) :=
  fun W2 tk => (pt_val (h W2 tk) he).imp fun σ H Q2 h => test_low h
def e3Chain (r r' : D → D → MH → Q3 → Prop) (ta tb tc : E3) : E3 := fun W env M Q => ta W env M fun d M1 => tb W env M1 fun e M2 => r d e M2 fun z M3 => match z with
  | .bl k => Br k (tc W env M3 fun f M4 => r' e f M4 Q) (Q (.bl false) M3)
  | _ => False
theorem chain_low {r r' : R2} {q q' : D → D → MH → Q3 → Prop} {W2 : WX} (hl : OpL X.K r q) (hl' : OpL X.K r' q') {σ : L2.St} {H : Hp} {Q2 : VK} (h : lowE X.K W2 (e3Chain q q' ta tb tc) σ H Q2) : tChain r r' (lowE X.K W2 ta) (lowE X.K W2 tb) (lowE X.K W2 tc) σ H Q2 := by
  obtain ⟨env, M, W, Q, s, a, l, q, g⟩ := h
  refine ⟨env, M, W, _, s, a, l, q, fun d v H1 M1 t1 a1 r1 q1 => ?_⟩
  refine ⟨env, M1, W, _, s.mono t1, a1, l.mono t1, q1, fun e u H2 M2 t2 a2 r2 q2 => ?_⟩
  refine hl d e v u H2 M2 _ _ (r1.mono t2) r2 a2 q2 fun z w H3 M3 t3 a3 r3 q3 => ?_
  have t123 := (t1.trans t2).trans t3
  cases z with
  | bl k =>
    refine ⟨k, r3.bl_inv, ?_⟩
    cases k with
    | true =>
      rw [if_pos rfl]
      refine ⟨env, M3, W, _, s.mono t123, a3, l.mono t123, q3.1 rfl, fun f w' H4 M4 t4 a4 r4 q4 => ?_⟩
      exact hl' e f u w' H4 M4 Q Q2 (r2.mono (t3.trans t4)) r4 a4 q4 (g.mono (t123.trans t4))
    | false =>
      rw [if_neg Bool.false_ne_true]
      exact g _ _ H3 M3 t123 a3 Rv.bl (q3.2 rfl)
  | _ => exact q3.elim
theorem d_chain {op op' : CmpOp} {r r' : R2} {q q' : D → D → MH → Q3 → Prop} (ho : OpR X (compareOp op) r) (hl : OpL X.K r q) (ho' : OpR X (compareOp op') r') (hl' : OpL X.K r' q') (ha : DE X a ta) (hb : DE X b tb) (hc : DE X c tc)
    (hm : lastMarks [op, op'] [b, c] = false := by with_unfolding_all rfl) : DE X (.Compare a [op, op'] [b, c] pos) (e3Chain q q' ta tb tc) :=
  fun W2 tk => (pe_chain ho ho' (ha W2 tk) (hb W2 tk) (hc W2 tk) hm).imp fun σ H Q2 h => chain_low hl hl' h
theorem t_chain {op op' : CmpOp} {r r' : R2} {q q' : D → D → MH → Q3 → Prop} (ho : OpR X (compareOp op) r) (hl : OpL X.K r q) (ho' : OpR X (compareOp op') r') (hl' : OpL X.K r' q') (ha : DE X a ta) (hb : DE X b tb) (hc : DE X c tc)
    (hm : lastMarks [op, op'] [b, c] = false := by with_unfolding_all rfl) : DT X (.Compare a [op, op'] [b, c] pos) (t3Test (e3Chain q q' ta tb tc)) :=
  fun W2 tk => (pt_chain ho ho' (ha W2 tk) (hb W2 tk) (hc W2 tk) hm).imp fun σ H Q2 h => chain_low hl hl' (test_low h)
/-! ### the operators' meanings -/
variable {K : Fg}
def r3Add : D → D → MH → Q3 → Prop
  | .int i, .int j, M, Q => Q (.int (i + j)) M
  | .tup xs, .tup ys, M, Q => xs.length + ys.length ≤ sizeLine ∧ Q (.tup (xs ++ ys)) M
  | .str x, .str y, M, Q => x.length + y.length ≤ sizeLine ∧ Q (.str (x ++ y)) M
  | .ref a, .ref b, M, Q => ∃ xs ys, M a = some (.lst xs) ∧ M b = some (.lst ys) ∧ xs.length + ys.length ≤ sizeLine ∧ ∀ p, M p = none → Q (.ref p) (updM M p (.lst (xs ++ ys)))
  | _, _, _, _ => False
theorem opl_add : OpL K (fun x y H Q => rI0 (fun i j => .int (i + j)) x y H Q ∨ (rCatD K x y H Q ∨ ((fun x y H Q => ∃ i j, x = .str i ∧ y = .str j ∧ i.length + j.length ≤ sizeLine ∧ Q (.str (i ++ j)) H) x y H Q ∨ rCat x y H Q))) r3Add := by
  intro d e v u H M Q Q2 rd re a q g
  unfold r3Add at q
  split at q
  · cases rd.int_inv; cases re.int_inv
    exact .inl ⟨_, _, rfl, rfl, g _ _ H M (Tps.refl H) a Rv.int q⟩
  · rename_i xs ys
    obtain ⟨p, vs, rfl, hs, hv⟩ := rd.tup_inv
    obtain ⟨p', vs', rfl, hs', hv'⟩ := re.tup_inv
    have hl := hv.length
    have hl' := hv'.length
    refine .inr (.inl ⟨p, p', vs, vs', rfl, rfl, hs, hs', by omega, fun e0 => ?_, fun n0 e0 => ?_, fun n0 n1 t ot nt dt => ?_⟩)
    · subst e0
      have : xs = [] := by cases xs with | nil => rfl | cons _ _ => simp at hl
      subst this
      exact g _ _ H M (Tps.refl H) a re q.2
    · subst e0
      have : ys = [] := by cases ys with | nil => rfl | cons _ _ => simp at hl'
      subst this
      refine g _ _ H M (Tps.refl H) a rd ?_
      have := q.2
      rw [List.append_nil] at this
      exact this
    · exact g _ _ _ M (Tps.new nt) (a.tupN nt) (Rv.tup (SqD.of dt) ((hv.app hv').mono (Tps.new nt))) q.2
  · cases rd.str_inv; cases re.str_inv
    exact .inr (.inr (.inl ⟨_, _, rfl, rfl, q.1, g _ _ H M (Tps.refl H) a Rv.str q.2⟩))
  · obtain ⟨xs, ys, h1, h2, hz, q⟩ := q
    cases rd.ref_inv; cases re.ref_inv
    obtain ⟨vs, e1, r1⟩ := a.lst h1
    obtain ⟨vs', e2, r2⟩ := a.lst h2
    have hl := r1.length
    have hl' := r2.length
    refine .inr (.inr (.inr ⟨_, _, vs, vs', rfl, rfl, e1, e2, by omega, fun p np => ?_⟩))
    exact g _ _ _ _ (Tps.new np) (a.lstN np (r1.app r2)) Rv.ref (q p (a.fresh np))
  · exact q.elim
theorem ho_add : OpR X (binaryOp .Add) (fun x y H Q => rI0 (fun i j => .int (i + j)) x y H Q ∨ (rCatD X.K x y H Q ∨ ((fun x y H Q => ∃ i j, x = .str i ∧ y = .str j ∧ i.length + j.length ≤ sizeLine ∧ Q (.str (i ++ j)) H) x y H Q ∨ rCat x y H Q))) :=
  op_add.or (op_catD.or (op_add_str.or op_cat))
theorem d_add (ha : DE X a ta) (hb : DE X b tb) : DE X (.BinOp a .Add b pos) (e3Op r3Add ta tb) := d_op ho_add opl_add ha hb
def r3Int (C : Int → Int → Prop) (f : Int → Int → Int) : D → D → MH → Q3 → Prop
  | .int i, .int j, M, Q => C i j ∧ Q (.int (f i j)) M
  | _, _, _, _ => False
theorem opl_int {C : Int → Int → Prop} {f : Int → Int → Int} : OpL K (rI C fun i j => .int (f i j)) (r3Int C f) := by
  intro d e v u H M Q Q2 rd re a q g
  unfold r3Int at q
  split at q
  · cases rd.int_inv; cases re.int_inv
    exact ⟨_, _, rfl, rfl, q.1, g _ _ H M (Tps.refl H) a Rv.int q.2⟩
  · exact q.elim
def r3Int0 (f : Int → Int → Int) : D → D → MH → Q3 → Prop
  | .int i, .int j, M, Q => Q (.int (f i j)) M
  | _, _, _, _ => False
theorem opl_int0 {f : Int → Int → Int} : OpL K (rI0 fun i j => .int (f i j)) (r3Int0 f) := by
  intro d e v u H M Q Q2 rd re a q g
  unfold r3Int0 at q
  split at q
  · cases rd.int_inv; cases re.int_inv
    exact ⟨_, _, rfl, rfl, g _ _ H M (Tps.refl H) a Rv.int q⟩
  · exact q.elim
def r3Mul : D → D → MH → Q3 → Prop
  | .int i, .int j, M, Q => CMul i j ∧ Q (.int (i * j)) M
  | .tup xs, .int k, M, Q => xs ≠ [] ∧ 2 ≤ k ∧ k ≤ 1000 ∧ xs.length ≤ 1000 ∧ Q (.tup (List.replicate k.toNat xs).flatten) M
  | .ref l, .int k, M, Q => ∃ xs, M l = some (.lst xs) ∧ 0 ≤ k ∧ k < 2 ^ 63 ∧ xs.length * k.toNat ≤ sizeLine ∧ ∀ p, M p = none → Q (.ref p) (updM M p (.lst (List.replicate k.toNat xs).flatten))
  | _, _, _, _ => False
theorem Rvs.rep {H : Hp} {ds : List D} {vs : List V} (r : Rvs K H ds vs) : ∀ n, Rvs K H (List.replicate n ds).flatten (List.replicate n vs).flatten
  | 0 => Rvs.nil
  | n + 1 => by
    rw [List.replicate_succ, List.replicate_succ, List.flatten_cons, List.flatten_cons]
    exact r.app (Rvs.rep r n)
theorem opl_mul : OpL K (fun x y H Q => rI CMul (fun i j => .int (i * j)) x y H Q ∨ (rRepD K x y H Q ∨ rRep x y H Q)) r3Mul := by
  intro d e v u H M Q Q2 rd re a q g
  unfold r3Mul at q
  split at q
  · cases rd.int_inv; cases re.int_inv
    exact .inl ⟨_, _, rfl, rfl, q.1, g _ _ H M (Tps.refl H) a Rv.int q.2⟩
  · cases re.int_inv
    obtain ⟨n0, k1, k2, hz, q⟩ := q
    obtain ⟨p, vs, rfl, hs, hv⟩ := rd.tup_inv
    have hl := hv.length
    refine .inr (.inl ⟨p, _, vs, rfl, rfl, hs, ?_, k1, k2, by omega, fun t ot nt dt => ?_⟩)
    · intro z
      subst z
      exact n0 (by cases hv.length.symm ▸ (rfl : ([] : List V).length = 0); exact List.eq_nil_of_length_eq_zero (by simpa using hl))
    · exact g _ _ _ M (Tps.new nt) (a.tupN nt) (Rv.tup (SqD.of dt) ((hv.rep _).mono (Tps.new nt))) q
  · cases rd.ref_inv; cases re.int_inv
    obtain ⟨xs, h1, k0, k1, hz, q⟩ := q
    obtain ⟨vs, e1, r1⟩ := a.lst h1
    have hl := r1.length
    refine .inr (.inr ⟨_, _, vs, rfl, rfl, e1, by omega, k1, by rw [← hl]; exact hz, fun p np => ?_⟩)
    exact g _ _ _ _ (Tps.new np) (a.lstN np (r1.rep _)) Rv.ref (q p (a.fresh np))
  · exact q.elim
theorem d_mul (ha : DE X a ta) (hb : DE X b tb) : DE X (.BinOp a .Mult b pos) (e3Op r3Mul ta tb) := d_op (op_mul.or (op_repD.or op_rep)) opl_mul ha hb
def r3Sub : D → D → MH → Q3 → Prop
  | .int i, .int j, M, Q => Q (.int (i - j)) M
  | _, _, _, _ => False
theorem opl_Sub : OpL K (rI0 fun i j => .int (i - j)) r3Sub := by
  intro d e v u H M Q Q2 rd re a q g
  unfold r3Sub at q
  split at q
  · cases rd.int_inv; cases re.int_inv
    exact ⟨_, _, rfl, rfl, g _ _ H M (Tps.refl H) a Rv.int q⟩
  · exact q.elim
theorem d_sub (ha : DE X a ta) (hb : DE X b tb) : DE X (.BinOp a .Sub b pos) (e3Op r3Sub ta tb) := d_op op_sub opl_Sub ha hb
def r3Mod : D → D → MH → Q3 → Prop
  | .int i, .int j, M, Q => 0 < j ∧ Q (.int (i % j)) M
  | _, _, _, _ => False
theorem opl_Mod : OpL K (rI (fun i j => 0 < j) fun i j => .int (i % j)) r3Mod := by
  intro d e v u H M Q Q2 rd re a q g
  unfold r3Mod at q
  split at q
  · cases rd.int_inv; cases re.int_inv
    exact ⟨_, _, rfl, rfl, q.1, g _ _ H M (Tps.refl H) a Rv.int q.2⟩
  · exact q.elim
theorem d_mod (ha : DE X a ta) (hb : DE X b tb) : DE X (.BinOp a .Mod b pos) (e3Op r3Mod ta tb) := d_op op_mod opl_Mod ha hb
def r3Div : D → D → MH → Q3 → Prop
  | .int i, .int j, M, Q => (0 < j ∧ j < 1073741824) ∧ Q (.int (i / j)) M
  | _, _, _, _ => False
theorem opl_Div : OpL K (rI (fun i j => (0 < j ∧ j < 1073741824)) fun i j => .int (i / j)) r3Div := by
  intro d e v u H M Q Q2 rd re a q g
  unfold r3Div at q
  split at q
  · cases rd.int_inv; cases re.int_inv
    exact ⟨_, _, rfl, rfl, q.1, g _ _ H M (Tps.refl H) a Rv.int q.2⟩
  · exact q.elim
theorem d_fdiv (ha : DE X a ta) (hb : DE X b tb) : DE X (.BinOp a .FloorDiv b pos) (e3Op r3Div ta tb) := d_op op_fdiv opl_Div ha hb
def r3Pow : D → D → MH → Q3 → Prop
  | .int i, .int j, M, Q => (0 ≤ j ∧ j ≤ 1000000 ∧ i.natAbs < 2 ^ 64) ∧ Q (.int (i ^ j.toNat)) M
  | _, _, _, _ => False
theorem opl_Pow : OpL K (rI (fun i j => (0 ≤ j ∧ j ≤ 1000000 ∧ i.natAbs < 2 ^ 64)) fun i j => .int (i ^ j.toNat)) r3Pow := by
  intro d e v u H M Q Q2 rd re a q g
  unfold r3Pow at q
  split at q
  · cases rd.int_inv; cases re.int_inv
    exact ⟨_, _, rfl, rfl, q.1, g _ _ H M (Tps.refl H) a Rv.int q.2⟩
  · exact q.elim
theorem d_pow (ha : DE X a ta) (hb : DE X b tb) : DE X (.BinOp a .Pow b pos) (e3Op r3Pow ta tb) := d_op op_pow opl_Pow ha hb
def r3Shl : D → D → MH → Q3 → Prop
  | .int i, .int j, M, Q => (0 ≤ j ∧ j ≤ 1000000 ∧ i.natAbs < 2 ^ 64) ∧ Q (.int (i * 2 ^ j.toNat)) M
  | _, _, _, _ => False
theorem opl_Shl : OpL K (rI (fun i j => (0 ≤ j ∧ j ≤ 1000000 ∧ i.natAbs < 2 ^ 64)) fun i j => .int (i * 2 ^ j.toNat)) r3Shl := by
  intro d e v u H M Q Q2 rd re a q g
  unfold r3Shl at q
  split at q
  · cases rd.int_inv; cases re.int_inv
    exact ⟨_, _, rfl, rfl, q.1, g _ _ H M (Tps.refl H) a Rv.int q.2⟩
  · exact q.elim
theorem d_shl (ha : DE X a ta) (hb : DE X b tb) : DE X (.BinOp a .LShift b pos) (e3Op r3Shl ta tb) := d_op op_shl opl_Shl ha hb
def r3Shr : D → D → MH → Q3 → Prop
  | .int i, .int j, M, Q => 0 ≤ j ∧ Q (.int (i / 2 ^ j.toNat)) M
  | _, _, _, _ => False
theorem opl_Shr : OpL K (rI (fun i j => 0 ≤ j) fun i j => .int (i / 2 ^ j.toNat)) r3Shr := by
  intro d e v u H M Q Q2 rd re a q g
  unfold r3Shr at q
  split at q
  · cases rd.int_inv; cases re.int_inv
    exact ⟨_, _, rfl, rfl, q.1, g _ _ H M (Tps.refl H) a Rv.int q.2⟩
  · exact q.elim
theorem d_shr (ha : DE X a ta) (hb : DE X b tb) : DE X (.BinOp a .RShift b pos) (e3Op r3Shr ta tb) := d_op op_shr opl_Shr ha hb
def r3Band : D → D → MH → Q3 → Prop
  | .int i, .int j, M, Q => Q (.int (Builtin.bitAnd i j)) M
  | _, _, _, _ => False
theorem opl_Band : OpL K (rI0 fun i j => .int (Builtin.bitAnd i j)) r3Band := by
  intro d e v u H M Q Q2 rd re a q g
  unfold r3Band at q
  split at q
  · cases rd.int_inv; cases re.int_inv
    exact ⟨_, _, rfl, rfl, g _ _ H M (Tps.refl H) a Rv.int q⟩
  · exact q.elim
theorem d_band (ha : DE X a ta) (hb : DE X b tb) : DE X (.BinOp a .BitAnd b pos) (e3Op r3Band ta tb) := d_op op_and opl_Band ha hb
def r3Bor : D → D → MH → Q3 → Prop
  | .int i, .int j, M, Q => Q (.int (Builtin.bitOr i j)) M
  | _, _, _, _ => False
theorem opl_Bor : OpL K (rI0 fun i j => .int (Builtin.bitOr i j)) r3Bor := by
  intro d e v u H M Q Q2 rd re a q g
  unfold r3Bor at q
  split at q
  · cases rd.int_inv; cases re.int_inv
    exact ⟨_, _, rfl, rfl, g _ _ H M (Tps.refl H) a Rv.int q⟩
  · exact q.elim
theorem d_bor (ha : DE X a ta) (hb : DE X b tb) : DE X (.BinOp a .BitOr b pos) (e3Op r3Bor ta tb) := d_op op_or opl_Bor ha hb
/-! ### data for == and in -/
mutual
inductive Py (M : MH) : D → PyData → Prop
  | non : Py M .non .none
  | bl (b : Bool) : Py M (.bl b) (.bool b)
  | int (i : Int) : Py M (.int i) (.int i)
  | str (x : Str) : Py M (.str x) (.str x)
  | tup {ds : List D} {ps : List PyData} : Pys M ds ps → Py M (.tup ds) (.tuple ps)
  | ref {a : Addr} {ds : List D} {ps : List PyData} : LstM M a ds → Pys M ds ps → Py M (.ref a) (.list ps)
inductive Pys (M : MH) : List D → List PyData → Prop
  | nil : Pys M [] []
  | cons {d : D} {ds : List D} {p : PyData} {ps : List PyData} : Py M d p → Pys M ds ps → Pys M (d :: ds) (p :: ps)
end
mutual
theorem Py.dp {H : Hp} {M : MH} (a : Abs K M H) : ∀ (p : PyData) (d : D) (v : V), Py M d p → Rv K H d v → Dp K H v p
  | .none, _, _, h, r => by cases h; cases r.non_inv; exact .non
  | .bool b, _, _, h, r => by cases h; cases r.bl_inv; exact .bl b
  | .int i, _, _, h, r => by cases h; cases r.int_inv; exact .int i
  | .str x, _, _, h, r => by cases h; cases r.str_inv; exact .str x
  | .tuple ps, _, _, h, r => by
    cases h with
    | tup h =>
      obtain ⟨p, vs, rfl, hs, hv⟩ := r.tup_inv
      exact .tup hs (Pys.dp a ps _ _ h hv)
  | .list ps, _, _, h, r => by
    cases h with
    | ref hl h =>
      cases r.ref_inv
      obtain ⟨vs, hs, hv⟩ := a.rd hl
      exact .lst hs (Pys.dp a ps _ _ h hv)
  | .dict _, _, _, h, _ => by cases h
theorem Pys.dp {H : Hp} {M : MH} (a : Abs K M H) : ∀ (ps : List PyData) (ds : List D) (vs : List V), Pys M ds ps → Rvs K H ds vs → DpAll K H vs ps
  | [], _, _, h, r => by cases h; cases r.nil_inv; exact .nil
  | p :: ps, _, _, h, r => by
    cases h with
    | cons h1 h2 =>
      obtain ⟨v, vs, rfl, r1, r2⟩ := r.cons_inv
      exact .cons (Py.dp a p _ _ h1 r1) (Pys.dp a ps _ _ h2 r2)
end
@[irreducible] def r3Eq : D → D → MH → Q3 → Prop
  | .int i, .int j, M, Q => Q (.bl (decide (i = j))) M
  | .bl i, .bl j, M, Q => Q (.bl (i == j)) M
  | .str i, .str j, M, Q => Q (.bl (decide (i = j))) M
  | d, e, M, Q => ∃ p q, Py M d p ∧ Py M e q ∧ SeqAt.shaped p = true ∧ SeqAt.shaped q = true ∧ Q (.bl (PyData.eqv p q)) M
@[irreducible] def r3Ne : D → D → MH → Q3 → Prop
  | .int i, .int j, M, Q => Q (.bl (!decide (i = j))) M
  | .bl i, .bl j, M, Q => Q (.bl (!(i == j))) M
  | .str i, .str j, M, Q => Q (.bl (!decide (i = j))) M
  | d, e, M, Q => ∃ p q, Py M d p ∧ Py M e q ∧ SeqAt.shaped p = true ∧ SeqAt.shaped q = true ∧ Q (.bl (!PyData.eqv p q)) M
theorem opl_eq : OpL K (fun x y H Q => rEq x y H Q ∨ rEqD K x y H Q) r3Eq := by
  intro d e v u H M Q Q2 rd re a q g
  unfold r3Eq at q
  split at q
  · cases rd.int_inv; cases re.int_inv
    refine .inl ⟨rfl, g _ _ H M (Tps.refl H) a Rv.bl ?_⟩
    rename_i i j
    have e1 : decide (V.int i = V.int j) = decide (i = j) := by
      by_cases h : i = j
      · subst h; simp
      · simp [h]
    rw [e1]; exact q
  · cases rd.bl_inv; cases re.bl_inv
    refine .inl ⟨rfl, g _ _ H M (Tps.refl H) a Rv.bl ?_⟩
    rename_i i j
    have e1 : decide (V.bl i = V.bl j) = (i == j) := by cases i <;> cases j <;> rfl
    rw [e1]; exact q
  · cases rd.str_inv; cases re.str_inv
    refine .inl ⟨rfl, g _ _ H M (Tps.refl H) a Rv.bl ?_⟩
    rename_i i j
    have e1 : decide (V.str i = V.str j) = decide (i = j) := by
      by_cases h : i = j
      · subst h; simp
      · simp [h]
    rw [e1]; exact q
  · obtain ⟨p, q', h1, h2, s1, s2, q⟩ := q
    exact .inr ⟨p, q', Py.dp a p _ _ h1 rd, Py.dp a q' _ _ h2 re, s1, s2, g _ _ H M (Tps.refl H) a Rv.bl q⟩
theorem opl_ne : OpL K (fun x y H Q => rNe x y H Q ∨ rNeD K x y H Q) r3Ne := by
  intro d e v u H M Q Q2 rd re a q g
  unfold r3Ne at q
  split at q
  · cases rd.int_inv; cases re.int_inv
    refine .inl ⟨rfl, g _ _ H M (Tps.refl H) a Rv.bl ?_⟩
    rename_i i j
    have e1 : decide (V.int i = V.int j) = decide (i = j) := by
      by_cases h : i = j
      · subst h; simp
      · simp [h]
    rw [e1]; exact q
  · cases rd.bl_inv; cases re.bl_inv
    refine .inl ⟨rfl, g _ _ H M (Tps.refl H) a Rv.bl ?_⟩
    rename_i i j
    have e1 : decide (V.bl i = V.bl j) = (i == j) := by cases i <;> cases j <;> rfl
    rw [e1]; exact q
  · cases rd.str_inv; cases re.str_inv
    refine .inl ⟨rfl, g _ _ H M (Tps.refl H) a Rv.bl ?_⟩
    rename_i i j
    have e1 : decide (V.str i = V.str j) = decide (i = j) := by
      by_cases h : i = j
      · subst h; simp
      · simp [h]
    rw [e1]; exact q
  · obtain ⟨p, q', h1, h2, s1, s2, q⟩ := q
    exact .inr ⟨p, q', Py.dp a p _ _ h1 rd, Py.dp a q' _ _ h2 re, s1, s2, g _ _ H M (Tps.refl H) a Rv.bl q⟩
theorem ho_eq {k : Nat} (hr : Room k X.A) : OpR X (compareOp .Eq) (fun x y H Q => rEq x y H Q ∨ rEqD X.K x y H Q) := op_eq.or (op_eqD hr.units)
theorem ho_ne {k : Nat} (hr : Room k X.A) : OpR X (compareOp .NotEq) (fun x y H Q => rNe x y H Q ∨ rNeD X.K x y H Q) := op_ne.or (op_neD hr.units)
def r3Cmp (f : Int → Int → Bool) : D → D → MH → Q3 → Prop
  | .int i, .int j, M, Q => Q (.bl (f i j)) M
  | _, _, _, _ => False
theorem opl_cmp {f : Int → Int → Bool} : OpL K (rI0 fun i j => .bl (f i j)) (r3Cmp f) := by
  intro d e v u H M Q Q2 rd re a q g
  unfold r3Cmp at q
  split at q
  · cases rd.int_inv; cases re.int_inv
    exact ⟨_, _, rfl, rfl, g _ _ H M (Tps.refl H) a Rv.bl q⟩
  · exact q.elim
def r3Lt : D → D → MH → Q3 → Prop
  | .int i, .int j, M, Q => Q (.bl (decide (i < j))) M
  | _, _, _, _ => False
theorem opl_Lt : OpL K (rI0 fun i j => .bl (decide (i < j))) r3Lt := by
  intro d e v u H M Q Q2 rd re a q g
  unfold r3Lt at q
  split at q
  · cases rd.int_inv; cases re.int_inv
    exact ⟨_, _, rfl, rfl, g _ _ H M (Tps.refl H) a Rv.bl q⟩
  · exact q.elim
def r3Le : D → D → MH → Q3 → Prop
  | .int i, .int j, M, Q => Q (.bl (decide (i ≤ j))) M
  | _, _, _, _ => False
theorem opl_Le : OpL K (rI0 fun i j => .bl (decide (i ≤ j))) r3Le := by
  intro d e v u H M Q Q2 rd re a q g
  unfold r3Le at q
  split at q
  · cases rd.int_inv; cases re.int_inv
    exact ⟨_, _, rfl, rfl, g _ _ H M (Tps.refl H) a Rv.bl q⟩
  · exact q.elim
def r3Gt : D → D → MH → Q3 → Prop
  | .int i, .int j, M, Q => Q (.bl (decide (j < i))) M
  | _, _, _, _ => False
theorem opl_Gt : OpL K (rI0 fun i j => .bl (decide (j < i))) r3Gt := by
  intro d e v u H M Q Q2 rd re a q g
  unfold r3Gt at q
  split at q
  · cases rd.int_inv; cases re.int_inv
    exact ⟨_, _, rfl, rfl, g _ _ H M (Tps.refl H) a Rv.bl q⟩
  · exact q.elim
def r3Ge : D → D → MH → Q3 → Prop
  | .int i, .int j, M, Q => Q (.bl (decide (j ≤ i))) M
  | _, _, _, _ => False
theorem opl_Ge : OpL K (rI0 fun i j => .bl (decide (j ≤ i))) r3Ge := by
  intro d e v u H M Q Q2 rd re a q g
  unfold r3Ge at q
  split at q
  · cases rd.int_inv; cases re.int_inv
    exact ⟨_, _, rfl, rfl, g _ _ H M (Tps.refl H) a Rv.bl q⟩
  · exact q.elim
def isNonD : D → Bool
  | .non => true
  | _ => false
def r3Is : D → D → MH → Q3 → Prop
  | d, .non, M, Q => Q (.bl (isNonD d)) M
  | _, _, _, _ => False
def r3IsNot : D → D → MH → Q3 → Prop
  | d, .non, M, Q => Q (.bl (!isNonD d)) M
  | _, _, _, _ => False
theorem isNonD_rel {H : Hp} {d : D} {v : V} (r : Rv K H d v) : decide (v = .non) = isNonD d := by
  cases d with
  | non => cases r.non_inv; rfl
  | bl b => cases r.bl_inv; rfl
  | int b => cases r.int_inv; rfl
  | str b => cases r.str_inv; rfl
  | tup b => obtain ⟨_, _, rfl, _⟩ := r.tup_inv; rfl
  | ref b => cases r.ref_inv; rfl
  | ty b => cases r.ty_inv; rfl
theorem opl_is : OpL K (fun x y H Q => y = .non ∧ Q (.bl (decide (x = .non))) H) r3Is := by
  intro d e v u H M Q Q2 rd re a q g
  unfold r3Is at q
  split at q
  · refine ⟨re.non_inv, ?_⟩
    rw [isNonD_rel rd]
    exact g _ _ H M (Tps.refl H) a Rv.bl q
  · exact q.elim
theorem opl_isnot : OpL K (fun x y H Q => y = .non ∧ Q (.bl (!decide (x = .non))) H) r3IsNot := by
  intro d e v u H M Q Q2 rd re a q g
  unfold r3IsNot at q
  split at q
  · refine ⟨re.non_inv, ?_⟩
    rw [isNonD_rel rd]
    exact g _ _ H M (Tps.refl H) a Rv.bl q
  · exact q.elim
/-! ### in: a list or a tuple of data -/
def rInT (K : Fg) : R2 := fun x y H Q => ∃ d ds, Dp K H x d ∧ Dp K H y (.tuple ds) ∧ SeqAt.shaped d = true ∧ SeqAt.shaped (.tuple ds) = true ∧ Q (.bl (ds.any fun z => PyData.eqv z d)) H
def rNotInT (K : Fg) : R2 := fun x y H Q => ∃ d ds, Dp K H x d ∧ Dp K H y (.tuple ds) ∧ SeqAt.shaped d = true ∧ SeqAt.shaped (.tuple ds) = true ∧ Q (.bl (!ds.any fun z => PyData.eqv z d)) H
theorem canLayT {ds : List PyData} (h : SeqAt.shaped (.tuple ds) = true) : PyData.canLayAll0 ds = true := by
  have := SeqAt.canLay_of_shaped h
  simpa [PyData.canLay0] using this
theorem op_inT (hu : X.A.units + 65 < cLine) : OpR X (compareOp .In) (rInT X.K) := by
  intro pins s σ H x y v u Q I rx ry h
  obtain ⟨d, ds, hd, he, sd, se, q⟩ := h
  obtain ⟨as, r1⟩ := Dp.reads I d x v hd rx
  obtain ⟨bs, r2⟩ := Dp.reads I (.tuple ds) y u he ry
  exact SeqAt.in_tuple_reads r2 r1 (canLayT se) (SeqAt.canLay_of_shaped sd) (room_in_shaped sd hu) ⟨.bl _, H, I, rfl, q⟩
theorem op_notInT (hu : X.A.units + 65 < cLine) : OpR X (compareOp .NotIn) (rNotInT X.K) := by
  intro pins s σ H x y v u Q I rx ry h
  obtain ⟨d, ds, hd, he, sd, se, q⟩ := h
  obtain ⟨as, r1⟩ := Dp.reads I d x v hd rx
  obtain ⟨bs, r2⟩ := Dp.reads I (.tuple ds) y u he ry
  exact SeqAt.notIn_tuple_reads r2 r1 (canLayT se) (SeqAt.canLay_of_shaped sd) (room_in_shaped sd hu) ⟨.bl _, H, I, rfl, q⟩
def Seq3 (M : MH) (ds : List D) : D → Prop
  | .tup es => es = ds
  | .ref a => LstM M a ds
  | _ => False
@[irreducible] def r3In (neg : Bool) : D → D → MH → Q3 → Prop := fun d e M Q => ∃ p ds ps, Py M d p ∧ Seq3 M ds e ∧ Pys M ds ps ∧ SeqAt.shaped p = true ∧ SeqAt.shaped (.list ps) = true ∧ SeqAt.shaped (.tuple ps) = true ∧ Q (.bl (neg ^^ ps.any fun z => PyData.eqv z p)) M
theorem opl_in : OpL K (fun x y H Q => rInD K x y H Q ∨ rInT K x y H Q) (r3In false) := by
  intro d e v u H M Q Q2 rd re a q g
  unfold r3In at q
  obtain ⟨p, ds, ps, h1, h2, h3, s1, s2, s3, q⟩ := q
  rw [Bool.false_xor] at q
  cases e with
  | tup es =>
    obtain rfl : es = ds := h2
    exact .inr ⟨p, ps, Py.dp a p _ _ h1 rd, Py.dp a (.tuple ps) _ _ (.tup h3) re, s1, s3, g _ _ H M (Tps.refl H) a Rv.bl q⟩
  | ref l => exact .inl ⟨p, ps, Py.dp a p _ _ h1 rd, Py.dp a (.list ps) _ _ (.ref h2 h3) re, s1, s2, g _ _ H M (Tps.refl H) a Rv.bl q⟩
  | _ => exact h2.elim
theorem opl_notin : OpL K (fun x y H Q => rNotInD K x y H Q ∨ rNotInT K x y H Q) (r3In true) := by
  intro d e v u H M Q Q2 rd re a q g
  unfold r3In at q
  obtain ⟨p, ds, ps, h1, h2, h3, s1, s2, s3, q⟩ := q
  rw [Bool.true_xor] at q
  cases e with
  | tup es =>
    obtain rfl : es = ds := h2
    exact .inr ⟨p, ps, Py.dp a p _ _ h1 rd, Py.dp a (.tuple ps) _ _ (.tup h3) re, s1, s3, g _ _ H M (Tps.refl H) a Rv.bl q⟩
  | ref l => exact .inl ⟨p, ps, Py.dp a p _ _ h1 rd, Py.dp a (.list ps) _ _ (.ref h2 h3) re, s1, s2, g _ _ H M (Tps.refl H) a Rv.bl q⟩
  | _ => exact h2.elim
theorem Room.u65 {k : Nat} {A : Around} (r : Room k A) : A.units + 65 < cLine := by have := r.un; omega
theorem ho_in {k : Nat} (hr : Room k X.A) : OpR X (compareOp .In) (fun x y H Q => rInD X.K x y H Q ∨ rInT X.K x y H Q) := (op_inD (Room.u65 hr)).or (op_inT (Room.u65 hr))
theorem ho_notin {k : Nat} (hr : Room k X.A) : OpR X (compareOp .NotIn) (fun x y H Q => rNotInD X.K x y H Q ∨ rNotInT X.K x y H Q) := (op_notInD (Room.u65 hr)).or (op_notInT (Room.u65 hr))
end
end L3

namespace L3
open PySem PySem.Spec PyProof.Rows L2
section
variable {X : Cx} {e a b c o i : Expr} {es : List Expr} {pos p : Pos} {t ta tb tc : E3} {u : A3} {K : Fg}
/-! ### argument lists, displays -/
def a3Nil : A3 := fun _ _ M Q => Q [] M
def a3Cons (t : E3) (u : A3) : A3 := fun W env M Q => t W env M fun d M1 => u W env M1 fun ds M2 => Q (d :: ds) M2
theorem da_nil : DA X [] a3Nil := fun W2 _ => pa_nil.imp fun σ H Q2 ⟨env, M, W, Q, s, a, l, q, g⟩ => g [] [] H M (Tps.refl H) a Rvs.nil q
theorem da_cons (ha : DE X e t) (hr : DA X es u) (hs : starEach (e :: es) X.env = (false, eval e X.env) :: starEach es X.env := by rfl) : DA X (e :: es) (a3Cons t u) := fun W2 tk =>
  (pa_cons (ha W2 tk) (hr W2 tk) hs).imp fun σ H Q2 ⟨env, M, W, Q, s, a, l, q, g⟩ => ⟨env, M, W, _, s, a, l, q, fun d v H1 M1 t1 a1 r1 q1 =>
    ⟨env, M1, W, _, s.mono t1, a1, l.mono t1, q1, fun ds vs H2 M2 t2 a2 r2 q2 => g _ _ H2 M2 (t1.trans t2) a2 (Rvs.cons (r1.mono t2) r2) q2⟩⟩
def e3Tup (u : A3) : E3 := fun W env M Q => u W env M fun ds M1 => ds.length ≤ sizeLine ∧ Q (.tup ds) M1
def e3Lst (u : A3) : E3 := fun W env M Q => u W env M fun ds M1 => ds.length ≤ sizeLine ∧ ∀ p, M1 p = none → Q (.ref p) (updM M1 p (.lst ds))
theorem d_tup {x1} (h : DA X es u) : DE X (.Tuple es x1 pos) (e3Tup u) := fun W2 tk => (pe_tupD (h W2 tk)).imp fun σ H Q2 ⟨env, M, W, Q, s, a, l, q, g⟩ =>
  ⟨env, M, W, _, s, a, l, q, fun ds vs H1 M1 t1 a1 r1 q1 => ⟨by rw [← r1.length]; exact q1.1, fun p op np dp => g _ _ _ M1 (t1.trans (Tps.new np)) (a1.tupN np) (Rv.tup (SqD.of dp) (r1.mono (Tps.new np))) q1.2⟩⟩
theorem d_lst (h : DA X es u) : DE X (.List es pos) (e3Lst u) := fun W2 tk => (pe_lst (h W2 tk)).imp fun σ H Q2 ⟨env, M, W, Q, s, a, l, q, g⟩ =>
  ⟨env, M, W, _, s, a, l, q, fun ds vs H1 M1 t1 a1 r1 q1 => ⟨by rw [← r1.length]; exact q1.1, fun p np => g _ _ _ _ (t1.trans (Tps.new np)) (a1.lstN np r1) Rv.ref (q1.2 p (a1.fresh np))⟩⟩
/-! ### subscripts -/
def r3Ix : D → D → MH → Q3 → Prop
  | .tup ds, .int i, M, Q => ∃ d, atI ds i = some d ∧ Q d M
  | .ref l, .int i, M, Q => ∃ ds d, LstM M l ds ∧ atI ds i = some d ∧ Q d M
  | _, _, _, _ => False
theorem Rvs.at {H : Hp} {ds : List D} {vs : List V} {i : Int} {d : D} (r : Rvs K H ds vs) (h : atI ds i = some d) : ∃ v, atI vs i = some v ∧ Rv K H d v := by
  unfold atI at h ⊢
  rw [← r.length]
  cases q : ixN ds.length i with
  | none => rw [q] at h; cases h
  | some j =>
    rw [q] at h
    obtain ⟨v, e, r'⟩ := r.get (i := j) (d := d) h
    exact ⟨v, e, r'⟩
theorem opl_ix : OpL K (fun x y H Q => rIxT K x y H Q ∨ rIxL K x y H Q) r3Ix := by
  intro d e v u H M Q Q2 rd re a q g
  unfold r3Ix at q
  split at q
  · obtain ⟨x, hx, q⟩ := q
    cases re.int_inv
    obtain ⟨p, vs, rfl, hs, hv⟩ := rd.tup_inv
    obtain ⟨y, hy, ry⟩ := hv.at hx
    exact .inl ⟨p, vs, _, y, rfl, rfl, hs, hy, g _ _ H M (Tps.refl H) a ry q⟩
  · obtain ⟨ds, x, hl, hx, q⟩ := q
    cases re.int_inv
    cases rd.ref_inv
    obtain ⟨vs, hs, hv⟩ := a.rd hl
    obtain ⟨y, hy, ry⟩ := hv.at hx
    exact .inr ⟨_, vs, _, y, rfl, rfl, hs, hy, g _ _ H M (Tps.refl H) a ry q⟩
  · exact q.elim
theorem d_ix (ha : DE X a ta) (hb : DE X b tb) (hs : PlainIx b := by exact fun _ _ => rfl) : DE X (.Subscript a b pos) (e3Op r3Ix ta tb) :=
  fun W2 tk => (pe_ix (ix_tup.or ix_list) (ha W2 tk) (hb W2 tk) hs).imp fun σ H Q2 h => op_low opl_ix h
/-! ### slices -/
abbrev O3 := W3 → En → MH → (Option Int → MH → Prop) → Prop
def lowO (K : Fg) (W2 : WX) (t : O3) : TO := fun σ H Q2 => ∃ env M W Q, SE K H σ env ∧ Abs K M H ∧ LW K H W W2 ∧ t W env M Q ∧ ∀ o H' M', Tps H H' → Abs K M' H' → Q o M' → Q2 o H'
def DO (X : Cx) (e : Option Expr) (t : O3) : Prop := ∀ W2, Takes X W2 → PO X e (lowO X.K W2 t)
theorem _root_.L2.PO.imp {X : Cx} {e : Option Expr} {t t' : TO} (h : PO X e t) (k : ∀ σ H Q, t' σ H Q → t σ H Q) : PO X e t' := ⟨fun pins s σ H Q I q => h.run pins s σ H Q I (k σ H Q q)⟩
def o3None : O3 := fun _ _ M Q => Q none M
def o3Some (t : E3) : O3 := fun W env M Q => t W env M fun d M1 => match d with | .int i => Q (some i) M1 | _ => False
theorem do_none : DO X none o3None := fun W2 _ => po_none.imp fun σ H Q2 ⟨env, M, W, Q, s, a, l, q, g⟩ => g _ H M (Tps.refl H) a q
theorem do_some (h : DE X e t) : DO X (some e) (o3Some t) := fun W2 tk => (po_some (h W2 tk)).imp fun σ H Q2 ⟨env, M, W, Q, s, a, l, q, g⟩ =>
  ⟨env, M, W, _, s, a, l, q, fun d v H1 M1 t1 a1 r1 q1 => by
    cases d with
    | int i => exact ⟨i, r1.int_inv, g _ H1 M1 t1 a1 q1⟩
    | _ => exact q1.elim⟩
def cutD (ds : List D) (lo hi : Option Int) : List D := (ds.drop (HT.sIx ds.length 0 lo)).take (HT.sIx ds.length ds.length hi - HT.sIx ds.length 0 lo)
def r3Sl : D → Option Int → Option Int → MH → Q3 → Prop
  | .tup ds, lo, hi, M, Q => Q (.tup (cutD ds lo hi)) M
  | .ref l, lo, hi, M, Q => ∃ ds, LstM M l ds ∧ ∀ p, M p = none → Q (.ref p) (updM M p (.lst (cutD ds lo hi)))
  | _, _, _, _, _ => False
def e3Sl (t : E3) (tl th : O3) : E3 := fun W env M Q => t W env M fun d M1 => tl W env M1 fun lo M2 => th W env M2 fun hi M3 => r3Sl d lo hi M3 Q
theorem Rvs.cut {H : Hp} {ds : List D} {vs : List V} (r : Rvs K H ds vs) (lo hi : Option Int) : Rvs K H (cutD ds lo hi) (cutV vs lo hi) := by
  unfold cutD cutV
  rw [r.length]
  exact (r.drop _).take _
theorem d_sl {lo hi : Option Expr} {tl th : O3} {p2} (ha : DE X a t) (hl : DO X lo tl) (hh : DO X hi th) : DE X (.Subscript a (.Slice lo hi none p2) pos) (e3Sl t tl th) := fun W2 tk =>
  (pe_slice (sl_tupD.or sl_list) (ha W2 tk) (hl W2 tk) (hh W2 tk)).imp fun σ H Q2 ⟨env, M, W, Q, s, a, l, q, g⟩ => by
    refine ⟨env, M, W, _, s, a, l, q, fun d v H1 M1 t1 a1 r1 q1 => ?_⟩
    refine ⟨env, M1, W, _, s.mono t1, a1, l.mono t1, q1, fun lo H2 M2 t2 a2 q2 => ?_⟩
    have t12 := t1.trans t2
    refine ⟨env, M2, W, _, s.mono t12, a2, l.mono t12, q2, fun hi H3 M3 t3 a3 q3 => ?_⟩
    have g3 := g.mono (t12.trans t3)
    have r3 := r1.mono (t2.trans t3)
    unfold r3Sl at q3
    split at q3
    · rename_i ds
      obtain ⟨p, vs, rfl, hs, hv⟩ := r3.tup_invD
      refine .inl ⟨p, vs, rfl, hs.1, fun w => ?_, fun w p op np dp => ?_⟩
      · refine g3 _ _ H3 M3 (Tps.refl H3) a3 (Rv.tup hs ?_) q3
        have e : cutV vs lo hi = vs := by
          unfold cutV
          rw [w.1, w.2, List.drop_zero, Nat.sub_zero, List.take_length]
        have := hv.cut lo hi
        rw [e] at this
        exact this
      · exact g3 _ _ _ M3 (Tps.new np) (a3.tupN np) (Rv.tup (SqD.of dp) ((hv.cut lo hi).mono (Tps.new np))) q3
    · obtain ⟨ds, hl, q3⟩ := q3
      cases r3.ref_inv
      obtain ⟨vs, hs, hv⟩ := a3.rd hl
      exact .inr ⟨_, vs, rfl, hs, fun p np => g3 _ _ _ _ (Tps.new np) (a3.lstN np (hv.cut lo hi)) Rv.ref (q3 p (a3.fresh np))⟩
    · exact q3.elim
/-! ### and, or, not, if .. else -/
def t3And (t u : T3) : T3 := fun W env M Q => t W env M fun b M1 => Br b (u W env M1 Q) (Q false M1)
def t3Or (t u : T3) : T3 := fun W env M Q => t W env M fun b M1 => Br b (Q true M1) (u W env M1 Q)
def t3Not (t : T3) : T3 := fun W env M Q => t W env M fun b M1 => Q (!b) M1
variable {tA tB : T3} {rest : List Expr}
theorem w_one (h : DT X a tA) {op : BoolOp} : DW X (.BoolOp op [a] pos) tA := fun W2 tk => by
  cases op with
  | And => exact pw_and1 (h W2 tk)
  | Or => exact pw_or1 (h W2 tk)
theorem w_and (ha : DT X a tA) (hb : DW X (.BoolOp .And (b :: rest) pos) tB) : DW X (.BoolOp .And (a :: b :: rest) pos) (t3And tA tB) := fun W2 tk => (pw_and (ha W2 tk) (hb W2 tk)).imp fun σ H Q2 ⟨env, M, W, Q, s, a, l, q, g⟩ =>
  ⟨env, M, W, _, s, a, l, q, fun b H1 M1 t1 a1 q1 => by
    cases b with
    | true => rw [if_pos rfl]; exact ⟨env, M1, W, Q, s.mono t1, a1, l.mono t1, q1.1 rfl, fun b H2 M2 t2 a2 q2 => g b H2 M2 (t1.trans t2) a2 q2⟩
    | false => rw [if_neg Bool.false_ne_true]; exact g _ H1 M1 t1 a1 (q1.2 rfl)⟩
theorem w_or (ha : DT X a tA) (hb : DW X (.BoolOp .Or (b :: rest) pos) tB) : DW X (.BoolOp .Or (a :: b :: rest) pos) (t3Or tA tB) := fun W2 tk => (pw_or (ha W2 tk) (hb W2 tk)).imp fun σ H Q2 ⟨env, M, W, Q, s, a, l, q, g⟩ =>
  ⟨env, M, W, _, s, a, l, q, fun b H1 M1 t1 a1 q1 => by
    cases b with
    | false => rw [if_neg Bool.false_ne_true]; exact ⟨env, M1, W, Q, s.mono t1, a1, l.mono t1, q1.2 rfl, fun b H2 M2 t2 a2 q2 => g b H2 M2 (t1.trans t2) a2 q2⟩
    | true => rw [if_pos rfl]; exact g _ H1 M1 t1 a1 (q1.1 rfl)⟩
theorem t_w (h : DW X e tA) : DT X e tA := fun W2 tk => (h W2 tk).pt
theorem t_not (h : DT X a tA) : DT X (.UnaryOp .Not a pos) (t3Not tA) := fun W2 tk => (pt_not (h W2 tk)).imp fun σ H Q2 ⟨env, M, W, Q, s, a, l, q, g⟩ =>
  ⟨env, M, W, _, s, a, l, q, fun b H1 M1 t1 a1 q1 => g _ H1 M1 t1 a1 q1⟩
def e3And (t u : E3) : E3 := fun W env M Q => t W env M fun d M1 => match d with | .bl b => Br b (u W env M1 Q) (Q (.bl false) M1) | _ => False
def e3Or (t u : E3) : E3 := fun W env M Q => t W env M fun d M1 => match d with | .bl b => Br b (Q (.bl true) M1) (u W env M1 Q) | _ => False
def e3Not (t : E3) : E3 := fun W env M Q => t W env M fun d M1 => match d with | .bl b => Q (.bl (!b)) M1 | _ => False
theorem d_one {op : BoolOp} (h : DE X a t) : DE X (.BoolOp op [a] pos) t := fun W2 tk => pe_one (h W2 tk)
theorem d_and (ha : DE X a ta) (hb : DE X (.BoolOp .And (b :: rest) pos) tb) : DE X (.BoolOp .And (a :: b :: rest) pos) (e3And ta tb) := fun W2 tk => (pe_and (ha W2 tk) (hb W2 tk)).imp fun σ H Q2 ⟨env, M, W, Q, s, a, l, q, g⟩ =>
  ⟨env, M, W, _, s, a, l, q, fun d v H1 M1 t1 a1 r1 q1 => by
    cases d with
    | bl b =>
      refine ⟨b, r1.bl_inv, ?_⟩
      cases b with
      | true => rw [if_pos rfl]; exact ⟨env, M1, W, Q, s.mono t1, a1, l.mono t1, q1.1 rfl, g.mono t1⟩
      | false => rw [if_neg Bool.false_ne_true]; exact g _ _ H1 M1 t1 a1 Rv.bl (q1.2 rfl)
    | _ => exact q1.elim⟩
theorem d_or (ha : DE X a ta) (hb : DE X (.BoolOp .Or (b :: rest) pos) tb) : DE X (.BoolOp .Or (a :: b :: rest) pos) (e3Or ta tb) := fun W2 tk => (pe_or (ha W2 tk) (hb W2 tk)).imp fun σ H Q2 ⟨env, M, W, Q, s, a, l, q, g⟩ =>
  ⟨env, M, W, _, s, a, l, q, fun d v H1 M1 t1 a1 r1 q1 => by
    cases d with
    | bl b =>
      refine ⟨b, r1.bl_inv, ?_⟩
      cases b with
      | false => rw [if_neg Bool.false_ne_true]; exact ⟨env, M1, W, Q, s.mono t1, a1, l.mono t1, q1.2 rfl, g.mono t1⟩
      | true => rw [if_pos rfl]; exact g _ _ H1 M1 t1 a1 Rv.bl (q1.1 rfl)
    | _ => exact q1.elim⟩
theorem d_not (ha : DE X a ta) : DE X (.UnaryOp .Not a pos) (e3Not ta) := fun W2 tk => (pe_not (ha W2 tk)).imp fun σ H Q2 ⟨env, M, W, Q, s, a, l, q, g⟩ =>
  ⟨env, M, W, _, s, a, l, q, fun d v H1 M1 t1 a1 r1 q1 => by
    cases d with
    | bl b => exact ⟨b, r1.bl_inv, g _ _ H1 M1 t1 a1 Rv.bl q1⟩
    | _ => exact q1.elim⟩
def e3If (c : T3) (t u : E3) : E3 := fun W env M Q => c W env M fun b M1 => Br b (t W env M1 Q) (u W env M1 Q)
theorem d_ifExp (hc : DT X c tA) (ha : DE X a ta) (hb : DE X b tb) : DE X (.IfExp c a b pos) (e3If tA ta tb) := fun W2 tk => (pe_ifExp (hc W2 tk) (ha W2 tk) (hb W2 tk)).imp fun σ H Q2 ⟨env, M, W, Q, s, a, l, q, g⟩ =>
  ⟨env, M, W, _, s, a, l, q, fun b H1 M1 t1 a1 q1 => by
    cases b with
    | true => rw [if_pos rfl]; exact ⟨env, M1, W, Q, s.mono t1, a1, l.mono t1, q1.1 rfl, g.mono t1⟩
    | false => rw [if_neg Bool.false_ne_true]; exact ⟨env, M1, W, Q, s.mono t1, a1, l.mono t1, q1.2 rfl, g.mono t1⟩⟩
def e3Neg (t : E3) : E3 := fun W env M Q => t W env M fun d M1 => match d with | .int i => Q (.int (-i)) M1 | _ => False
theorem d_neg (ha : DE X a ta) : DE X (.UnaryOp .USub a pos) (e3Neg ta) := fun W2 tk => (pe_un un_neg (ha W2 tk)).imp fun σ H Q2 ⟨env, M, W, Q, s, a, l, q, g⟩ =>
  ⟨env, M, W, _, s, a, l, q, fun d v H1 M1 t1 a1 r1 q1 => by
    cases d with
    | int b => exact ⟨b, r1.int_inv, g _ _ H1 M1 t1 a1 Rv.int q1⟩
    | _ => exact q1.elim⟩
/-! ### built-in calls by values -/
def CallL (K : Fg) (r : List V → Hp → VK → Prop) (r3 : List D → MH → Q3 → Prop) : Prop := ∀ ds vs H M Q Q2, Rvs K H ds vs → Abs K M H → r3 ds M Q → Got K H Q Q2 → r vs H Q2
def e3CB (r3 : List D → MH → Q3 → Prop) (u : A3) : E3 := fun W env M Q => u W env M fun ds M1 => r3 ds M1 Q
theorem cb_low {r : List V → Hp → VK → Prop} {r3 : List D → MH → Q3 → Prop} {W2 : WX} (hl : CallL X.K r r3) {σ : L2.St} {H : Hp} {Q2 : VK} (h : lowE X.K W2 (e3CB r3 u) σ H Q2) : tCB r (lowA X.K W2 u) σ H Q2 := by
  obtain ⟨env, M, W, Q, s, a, l, q, g⟩ := h
  exact ⟨env, M, W, _, s, a, l, q, fun ds vs H1 M1 t1 a1 r1 q1 => hl ds vs H1 M1 Q Q2 r1 a1 q1 (g.mono t1)⟩
theorem d_cb {id : String} {x : Str} {r : List V → Hp → VK → Prop} {r3 : List D → MH → Q3 → Prop} (hc : CallR X (.builtin id) r) (hl : CallL X.K r r3) (hg : Gl X x) (hm : X.mg x = none) (hv : bootBuiltins x = some (.builtin id)) (ha : DA X (e :: es) u)
    (hn : x ≠ "__name__" := by decide) (hdb : (x == ("__debug__" : Str)) = false := by decide) (he : starEach (e :: es) X.env = (false, eval e X.env) :: starEach es X.env := by rfl) (hpl : (backTo pos (starEach es X.env)).any (·.1) = false := by rfl) :
    DE X (.Call (.Name x p) (e :: es) [] pos) (e3CB r3 u) := fun W2 tk => (pe_callB hc hg hm hv (ha W2 tk) hn hdb he hpl).imp fun σ H Q2 h => cb_low hl h
theorem d_cty {T : String} {x : Str} {r : List V → Hp → VK → Prop} {r3 : List D → MH → Q3 → Prop} (hc : CallR X (.type T) r) (hl : CallL X.K r r3) (hg : Gl X x) (hm : X.mg x = none) (hv : bootBuiltins x = some (.type T)) (ha : DA X (e :: es) u)
    (hn : x ≠ "__name__" := by decide) (hdb : (x == ("__debug__" : Str)) = false := by decide) (he : starEach (e :: es) X.env = (false, eval e X.env) :: starEach es X.env := by rfl) (hpl : (backTo pos (starEach es X.env)).any (·.1) = false := by rfl) :
    DE X (.Call (.Name x p) (e :: es) [] pos) (e3CB r3 u) := fun W2 tk => (pe_callTy hc hg hm hv (ha W2 tk) hn hdb he hpl).imp fun σ H Q2 h => cb_low hl h
theorem one_inv {H : Hp} {d : D} {vs : List V} (r : Rvs K H [d] vs) : ∃ v, vs = [v] ∧ Rv K H d v := by
  obtain ⟨v, r', rfl, h, t⟩ := r.cons_inv
  cases t.nil_inv
  exact ⟨v, rfl, h⟩
theorem two_inv {H : Hp} {d e : D} {vs : List V} (r : Rvs K H [d, e] vs) : ∃ v w, vs = [v, w] ∧ Rv K H d v ∧ Rv K H e w := by
  obtain ⟨v, r', rfl, h, t⟩ := r.cons_inv
  obtain ⟨w, rfl, h'⟩ := one_inv t
  exact ⟨v, w, rfl, h, h'⟩
def c3Len : List D → MH → Q3 → Prop
  | [.tup ds], M, Q => Q (.int ds.length) M
  | [.ref l], M, Q => ∃ ds, LstM M l ds ∧ Q (.int ds.length) M
  | [.str x], M, Q => x.length ≤ sizeLine ∧ Q (.int x.length) M
  | _, _, _ => False
theorem cl_len : CallL K (fun xs H Q => (fun xs H Q => ∃ p ys, xs = [.ref p] ∧ (SqL K H p ys ∨ SqT K H p ys) ∧ Q (.int ys.length) H) xs H Q ∨ (fun xs H Q => ∃ z, xs = [.str z] ∧ z.length ≤ sizeLine ∧ Q (.int z.length) H) xs H Q) c3Len := by
  intro ds vs H M Q Q2 r a q g
  unfold c3Len at q
  split at q
  · obtain ⟨v, rfl, rr⟩ := one_inv r
    obtain ⟨p, vs, rfl, hs, hv⟩ := rr.tup_inv
    refine .inl ⟨p, vs, rfl, .inr hs, g _ _ H M (Tps.refl H) a ?_ q⟩
    rw [hv.length]; exact Rv.int
  · obtain ⟨v, rfl, rr⟩ := one_inv r
    obtain ⟨ds, hl, q⟩ := q
    cases rr.ref_inv
    obtain ⟨vs, hs, hv⟩ := a.rd hl
    refine .inl ⟨_, vs, rfl, .inl hs, g _ _ H M (Tps.refl H) a ?_ q⟩
    rw [hv.length]; exact Rv.int
  · obtain ⟨v, rfl, rr⟩ := one_inv r
    cases rr.str_inv
    exact .inr ⟨_, rfl, q.1, g _ _ H M (Tps.refl H) a Rv.int q.2⟩
  · exact q.elim
theorem d_len (hm : X.mg "len" = none) (ha : DA X [e] u) (hg : Gl X "len" := by rfl) (he : starEach (e :: []) X.env = (false, eval e X.env) :: starEach [] X.env := by rfl) (hpl : (backTo pos (starEach [] X.env)).any (·.1) = false := by rfl) : DE X (.Call (.Name "len" p) [e] [] pos) (e3CB c3Len u) :=
  d_cb (call_len_seq.or call_len_str) cl_len hg hm PySem.boot_len ha (by decide) (by decide) he hpl
def c3Int : List D → MH → Q3 → Prop
  | [.int i], M, Q => Q (.int i) M
  | [.bl b], M, Q => Q (.int (if b then 1 else 0)) M
  | _, _, _ => False
theorem cl_int : CallL K (fun xs H Q => (∃ i, xs = [.int i] ∧ Q (.int i) H) ∨ ∃ k, xs = [.bl k] ∧ Q (.int (if k then 1 else 0)) H) c3Int := by
  intro ds vs H M Q Q2 r a q g
  unfold c3Int at q
  split at q
  · obtain ⟨v, rfl, rr⟩ := one_inv r
    cases rr.int_inv
    exact .inl ⟨_, rfl, g _ _ H M (Tps.refl H) a Rv.int q⟩
  · obtain ⟨v, rfl, rr⟩ := one_inv r
    cases rr.bl_inv
    exact .inr ⟨_, rfl, g _ _ H M (Tps.refl H) a Rv.int q⟩
  · exact q.elim
theorem boot_int' : bootBuiltins "int" = some (.type "int") := by decide +kernel
theorem boot_abs' : bootBuiltins "abs" = some (.builtin "abs") := by decide +kernel
theorem boot_list' : bootBuiltins "list" = some (.type "list") := by decide +kernel
theorem boot_isinstance' : bootBuiltins "isinstance" = some (.builtin "isinstance") := by decide +kernel
theorem boot_all' : bootBuiltins "all" = some (.builtin "all") := by decide +kernel
theorem boot_any' : bootBuiltins "any" = some (.builtin "any") := by decide +kernel
theorem boot_sum' : bootBuiltins "sum" = some (.builtin "sum") := by decide +kernel
theorem boot_sorted' : bootBuiltins "sorted" = some (.builtin "sorted") := by decide +kernel
theorem d_intc (hm : X.mg "int" = none) (ha : DA X [e] u) (hg : Gl X "int" := by rfl) (he : starEach (e :: []) X.env = (false, eval e X.env) :: starEach [] X.env := by rfl) (hpl : (backTo pos (starEach [] X.env)).any (·.1) = false := by rfl) : DE X (.Call (.Name "int" p) [e] [] pos) (e3CB c3Int u) :=
  d_cty call_int1 cl_int hg hm boot_int' ha (by decide) (by decide) he hpl
def c3Abs : List D → MH → Q3 → Prop
  | [.int i], M, Q => Q (.int (if i < 0 then -i else i)) M
  | _, _, _ => False
theorem cl_abs : CallL K (fun xs H Q => ∃ i, xs = [.int i] ∧ Q (.int (if i < 0 then -i else i)) H) c3Abs := by
  intro ds vs H M Q Q2 r a q g
  unfold c3Abs at q
  split at q
  · obtain ⟨v, rfl, rr⟩ := one_inv r
    cases rr.int_inv
    exact ⟨_, rfl, g _ _ H M (Tps.refl H) a Rv.int q⟩
  · exact q.elim
theorem d_abs (hm : X.mg "abs" = none) (ha : DA X [e] u) (hg : Gl X "abs" := by rfl) (he : starEach (e :: []) X.env = (false, eval e X.env) :: starEach [] X.env := by rfl) (hpl : (backTo pos (starEach [] X.env)).any (·.1) = false := by rfl) : DE X (.Call (.Name "abs" p) [e] [] pos) (e3CB c3Abs u) :=
  d_cb call_abs cl_abs hg hm boot_abs' ha (by decide) (by decide) he hpl
/-- a value's type -/
def tyD (M : MH) : D → String → Prop
  | .non, n => n = "NoneType"
  | .bl _, n => n = "bool"
  | .int _, n => n = "int"
  | .str _, n => n = "str"
  | .tup _, n => n = "tuple"
  | .ref a, n => (n = "list" ∧ ∃ ds, LstM M a ds) ∨ (n = "dict" ∧ ((∃ kvs, M a = some (.dT kvs)) ∨ ∃ kvs, M a = some (.dK kvs)))
  | .ty _, _ => False
theorem tyD_ok {H : Hp} {M : MH} {d : D} {v : V} {n : String} (a : Abs K M H) (r : Rv K H d v) (h : tyD M d n) : TyX K H v (.type n) := by
  cases d with
  | non => cases r.non_inv; obtain rfl : n = _ := h; exact .base .non
  | bl b => cases r.bl_inv; obtain rfl : n = _ := h; exact .base (.bl _)
  | int b => cases r.int_inv; obtain rfl : n = _ := h; exact .base (.int _)
  | str b => cases r.str_inv; obtain rfl : n = _ := h; exact .base (.str _)
  | tup b =>
    obtain ⟨p, vs, rfl, hs, _⟩ := r.tup_inv
    obtain rfl : n = _ := h
    rcases hs with (hs | ⟨o, hs⟩) | ⟨o, its, m, hk, hc, _⟩
    · exact .base (.tup hs)
    · exact .fTuple hs
    · exact .kTuple hk hc
  | ref l =>
    cases r.ref_inv
    rcases h with ⟨rfl, ds, hl⟩ | ⟨rfl, h⟩
    · rcases hl with e | e
      · obtain ⟨vs, h1, _⟩ := a _ _ e
        exact .base (.lst h1)
      · obtain ⟨vs, o, h1, _⟩ := a _ _ e
        exact .base (.frz h1)
    · rcases h with ⟨kvs, e⟩ | ⟨kvs, e⟩
      · obtain ⟨ks, vs, h1, _⟩ := a _ _ e
        exact .base (.dT h1)
      · obtain ⟨ks, vs, h1, _⟩ := a _ _ e
        exact .base (.dK h1)
  | ty b => exact h.elim
@[irreducible] def c3Isi : List D → MH → Q3 → Prop
  | [d, .ty n], M, Q => ∃ m b, tyD M d m ∧ kitB m n = some b ∧ Q (.bl b) M
  | _, _, _ => False
theorem cl_isi : CallL K (rIsi K) c3Isi := by
  intro ds vs H M Q Q2 r a q g
  unfold c3Isi at q
  split at q
  · obtain ⟨v, w, rfl, r1, r2⟩ := two_inv r
    cases r2.ty_inv
    obtain ⟨m, b, h1, h2, q⟩ := q
    exact ⟨v, _, _, _, b, rfl, .ty _, tyD_ok a r1 h1, kit_ty h2, g _ _ H M (Tps.refl H) a Rv.bl q⟩
  · exact q.elim
theorem d_isi {e2 : Expr} (hm : X.mg "isinstance" = none) (ha : DA X [e, e2] u) (hg : Gl X "isinstance" := by rfl) (he : starEach (e :: [e2]) X.env = (false, eval e X.env) :: starEach [e2] X.env := by rfl) (hpl : (backTo pos (starEach [e2] X.env)).any (·.1) = false := by rfl) : DE X (.Call (.Name "isinstance" p) [e, e2] [] pos) (e3CB c3Isi u) :=
  d_cb call_isi cl_isi hg hm boot_isinstance' ha (by decide) (by decide) he hpl
def c3List : List D → MH → Q3 → Prop
  | [.tup ds], M, Q => ∀ p, M p = none → Q (.ref p) (updM M p (.lst ds))
  | [.ref l], M, Q => ∃ ds, LstM M l ds ∧ ∀ p, M p = none → Q (.ref p) (updM M p (.lst ds))
  | _, _, _ => False
theorem cl_list : CallL K (fun xs H Q => ∃ p ys, xs = [.ref p] ∧ (SqL K H p ys ∨ SqT K H p ys) ∧ ∀ l, H l = none → Q (.ref l) (upd H l (.lst ys))) c3List := by
  intro ds vs H M Q Q2 r a q g
  unfold c3List at q
  split at q
  · obtain ⟨v, rfl, rr⟩ := one_inv r
    obtain ⟨p, vs, rfl, hs, hv⟩ := rr.tup_inv
    exact ⟨p, vs, rfl, .inr hs, fun l nl => g _ _ _ _ (Tps.new nl) (a.lstN nl hv) Rv.ref (q l (a.fresh nl))⟩
  · obtain ⟨v, rfl, rr⟩ := one_inv r
    obtain ⟨ds, hl, q⟩ := q
    cases rr.ref_inv
    obtain ⟨vs, hs, hv⟩ := a.rd hl
    exact ⟨_, vs, rfl, .inl hs, fun l nl => g _ _ _ _ (Tps.new nl) (a.lstN nl hv) Rv.ref (q l (a.fresh nl))⟩
  · exact q.elim
theorem d_list (hm : X.mg "list" = none) (ha : DA X [e] u) (hg : Gl X "list" := by rfl) (he : starEach (e :: []) X.env = (false, eval e X.env) :: starEach [] X.env := by rfl) (hpl : (backTo pos (starEach [] X.env)).any (·.1) = false := by rfl) : DE X (.Call (.Name "list" p) [e] [] pos) (e3CB c3List u) :=
  d_cty call_list_of cl_list hg hm boot_list' ha (by decide) (by decide) he hpl
def k3Tup : D → MH → Q3 → Prop
  | .tup ds, M, Q => Q (.tup ds) M
  | .ref l, M, Q => ∃ ds, LstM M l ds ∧ Q (.tup ds) M
  | _, _, _ => False
def e3TupOf (t : E3) : E3 := fun W env M Q => t W env M fun d M1 => k3Tup d M1 Q
theorem d_tuple (hm : X.mg "tuple" = none) (ha : DE X a t) (hg : Gl X "tuple" := by rfl) (na : starEach [a] X.env = (false, eval a X.env) :: starEach [] X.env := by rfl) : DE X (.Call (.Name "tuple" p) [a] [] pos) (e3TupOf t) := fun W2 tk =>
  (pe_tupleD hg hm (ha W2 tk) na).imp fun σ H Q2 ⟨env, M, W, Q, s, a, l, q, g⟩ => by
    refine ⟨env, M, W, _, s, a, l, q, fun d v H1 M1 t1 a1 r1 q1 => ?_⟩
    have g1 := g.mono t1
    unfold k3Tup at q1
    split at q1
    · obtain ⟨p, vs, rfl, hs, hv⟩ := r1.tup_inv
      exact .inr ⟨p, vs, rfl, hs, g1 _ _ H1 M1 (Tps.refl H1) a1 r1 q1⟩
    · obtain ⟨ds, hl, q1⟩ := q1
      cases r1.ref_inv
      obtain ⟨vs, hs, hv⟩ := a1.rd hl
      exact .inl ⟨_, vs, rfl, hs, fun p op np dp => g1 _ _ _ M1 (Tps.new np) (a1.tupN np) (Rv.tup (SqD.of dp) (hv.mono (Tps.new np))) q1⟩
    · exact q1.elim
def bls (bs : List Bool) : List D := bs.map D.bl
theorem Rvs.blsV {H : Hp} : ∀ {bs : List Bool} {vs : List V}, Rvs K H (bls bs) vs → vs = bs.map V.bl
  | [], _, h => h.nil_inv
  | b :: bs, _, h => by
    obtain ⟨v, r, rfl, h1, h2⟩ := Rvs.cons_inv (d := .bl b) (ds := bls bs) h
    rw [h1.bl_inv, Rvs.blsV h2]; rfl
theorem Rvs.intsV {H : Hp} : ∀ {bs : List Int} {vs : List V}, Rvs K H (bs.map D.int) vs → vs = bs.map V.int
  | [], _, h => h.nil_inv
  | b :: bs, _, h => by
    obtain ⟨v, r, rfl, h1, h2⟩ := Rvs.cons_inv (d := .int b) (ds := bs.map D.int) h
    rw [h1.int_inv, Rvs.intsV h2]; rfl
def c3All : List D → MH → Q3 → Prop
  | [.ref l], M, Q => ∃ bs, LstM M l (bls bs) ∧ Q (.bl (bs.all id)) M
  | _, _, _ => False
theorem cl_all : CallL K (rAll K) c3All := by
  intro ds vs H M Q Q2 r a q g
  unfold c3All at q
  split at q
  · obtain ⟨v, rfl, rr⟩ := one_inv r
    obtain ⟨bs, hl, q⟩ := q
    cases rr.ref_inv
    obtain ⟨vs, hs, hv⟩ := a.rd hl
    rw [hv.blsV] at hs
    exact ⟨_, bs, rfl, hs, g _ _ H M (Tps.refl H) a Rv.bl q⟩
  · exact q.elim
theorem d_all (hc : X.calm = true) (hm : X.mg "all" = none) (ha : DA X [e] u) (hg : Gl X "all" := by rfl) (he : starEach (e :: []) X.env = (false, eval e X.env) :: starEach [] X.env := by rfl) (hpl : (backTo pos (starEach [] X.env)).any (·.1) = false := by rfl) : DE X (.Call (.Name "all" p) [e] [] pos) (e3CB c3All u) :=
  d_cb (cr_all hc) cl_all hg hm boot_all' ha (by decide) (by decide) he hpl
/-! ### calls of defs -/
abbrev Sp3 := List D → MH → Q3 → (Value → Option Addr → MH → Prop) → Prop
def lowF (K : Fg) (sp : Sp3) : Sp := fun vs H Q2 E2 => ∃ ds M Q E, Rvs K H ds vs ∧ Abs K M H ∧ sp ds M Q E ∧ Got K H Q Q2 ∧ ∀ cls dd H' M', Tps H H' → Abs K M' H' → E cls dd M' → E2 cls dd H'
/-- room, and no built-in under way that shows or compares -/
structure RoomG (k : Nat) (A : Around) : Prop where
  r : Room k A
  g : A.guards = some []
theorem RoomG.mono {i k : Nat} {A : Around} (z : RoomG k A) (h : i ≤ k) : RoomG i A := ⟨z.r.mono h, z.g⟩
theorem RoomG.down {k : Nat} {A : Around} (z : RoomG (k + 1) A) (env : Env) : RoomG k (A.deeper env) := ⟨z.r.deeper env, z.g⟩
/-- a def keeps its promise wherever it is called -/
structure Fn3 (P : Program) (w : World) (K : Fg) (mg : Str → Option Value) (base : Heap) (k : Nat) (f : Addr) (fd : FuncData) (ps : List Str) (sp : Sp3) : Prop where
  many : ∀ ds M Q E, sp ds M Q E → ds.length = ps.length
  runs : ∀ (A : Around) (outer : List Env) (s : Shared) (H : Hp) (ar : Args) (ws : List Value) (zs : List V) (Q2 : VK) (E2 : XK), RoomG k A → Env0 P w K mg base A outer s H → BindsTo s fd ar (ps.zip ws) → Vals zs ws → lowF K sp zs H Q2 E2 →
    codeAny (model P w) A (.call (.ref f) ar) (CR (L2.CX P w) outer P w H s Q2 E2) s
theorem Fn3.mono {P : Program} {w : World} {K : Fg} {mg : Str → Option Value} {base : Heap} {i k : Nat} {f : Addr} {fd : FuncData} {ps : List Str} {sp : Sp3} (F : Fn3 P w K mg base i f fd ps sp) (h : i ≤ k) : Fn3 P w K mg base k f fd ps sp :=
  ⟨F.many, fun A outer s H ar ws zs Q2 E2 z => F.runs A outer s H ar ws zs Q2 E2 (z.mono h)⟩
theorem Fn3.imp {P : Program} {w : World} {K : Fg} {mg : Str → Option Value} {base : Heap} {k : Nat} {f : Addr} {fd : FuncData} {ps : List Str} {sp sp' : Sp3} (F : Fn3 P w K mg base k f fd ps sp) (h : ∀ ds M Q E, sp' ds M Q E → sp ds M Q E) : Fn3 P w K mg base k f fd ps sp' :=
  ⟨fun ds M Q E q => F.many ds M Q E (h _ _ _ _ q), fun A outer s H ar ws zs Q2 E2 z e b v ⟨ds, M, Q, E, r, a, q, g⟩ => F.runs A outer s H ar ws zs Q2 E2 z e b v ⟨ds, M, Q, E, r, a, h _ _ _ _ q, g⟩⟩
theorem low_many {K : Fg} {sp : Sp3} {n : Nat} (hm : ∀ ds M Q E, sp ds M Q E → ds.length = n) {zs : List V} {H : Hp} {Q2 : VK} {E2 : XK} (h : lowF K sp zs H Q2 E2) : zs.length = n := by
  obtain ⟨ds, M, Q, E, r, _, q, _⟩ := h
  rw [← r.length]
  exact hm ds M Q E q
/-- the callee is entered with its arguments bound, and comes back -/
theorem enter3 {k : Nat} {f : Addr} {fd : FuncData} {ps : List Str} {sp : Sp3} {pins : List (Addr × Obj)} {σ : L2.St} {H : Hp} {s : Shared} {Q2 : VK} {W2 : WX} {ar : Args} {ws : List Value} {zs : List V} (F : Fn3 X.prog X.w X.K X.mg X.base k f fd ps sp) (hr : RoomG k X.A) (tk : Takes X W2)
    (I : Inv X pins σ H s) (hb : BindsTo s fd ar (ps.zip ws)) (rv : Vals zs ws) (h : lowF X.K sp zs H Q2 (WE W2 σ)) : codeAny (model X.prog X.w) X.A (.call (.ref f) ar) (fun r s' => match r with
      | .ok (.ret u) => EP X pins σ Q2 u s'
      | .ok _ => False
      | .error x => X.xe x s') s :=
  codeAny_mono (F.runs X.A X.stack s H ar ws zs Q2 (WE W2 σ) hr I.env0 hb rv h) fun r s' hq => match r, hq with
    | .ok (.ret _), hq => I.after hq
    | .ok .next, hq => False.elim hq
    | .ok .brk, hq => False.elim hq
    | .ok .cont, hq => False.elim hq
    | .error x, hq => passAt tk σ pins H s x s' I hq
def e3Call (sp : Sp3) (u : A3) : E3 := fun W env M Q => u W env M fun ds M1 => sp ds M1 Q fun cls dd M' => W cls dd env M'
theorem d_call {k : Nat} {f : Addr} {fd : FuncData} {ps : List Str} {sp : Sp3} {x : Str} (F : Fn3 X.prog X.w X.K X.mg X.base k f fd ps sp) (hr : RoomG k X.A) (hm : X.mg x = some (.ref f)) (hk : PySem.W.keepIn X.K (.ref f) = true) (hb : Binds X.K fd ps [])
    (ha : DA X (e :: es) u) (hg : Gl X x := by rfl) (hdb : (x == ("__debug__" : Str)) = false := by decide) (he : starEach (e :: es) X.env = (false, eval e X.env) :: starEach es X.env := by rfl) (hpl : (backTo pos (starEach es X.env)).any (·.1) = false := by rfl) :
    DE X (.Call (.Name x p) (e :: es) [] pos) (e3Call sp u) := fun W2 tk => by
  refine ⟨fun pins s σ H Q2 I ⟨env, M, W, Q, se, a, l, q, g⟩ => wpAny_Call_Name_kw (ld_glob I hg hm ?_ hdb)⟩
  have low : lowA X.K W2 u σ H fun vs H1 => lowF X.K sp vs H1 Q2 (WE W2 σ) := ⟨env, M, W, _, se, a, l, q, fun ds vs H1 M1 t1 a1 r1 q1 => ⟨ds, M1, Q, _, r1, a1, q1, g.mono t1, fun cls dd H' M' t2 a2 w => l cls dd σ H' env M' (t1.trans t2) (se.mono (t1.trans t2)) a2 w⟩⟩
  refine PySem.W.callWith_K (h₀ := X.base) I.ok.mod.kin hk (thn ((ha W2 tk).run pos pins s σ H _ I low) fun us s1 ⟨vs, H1, I1, r, q2⟩ => ⟨I1.kIn, ?_⟩) he hpl
  have hn : us.length = ps.length := r.length.symm.trans (low_many F.many q2)
  have b := hb s1 us I1.kIn (by simpa using hn)
  rw [List.append_nil] at b
  refine wpAny_call (codeAny_mono (enter3 F hr tk I1 b r q2) fun r s' hq => ?_)
  match r, hq with
  | .ok (.ret _), hq => exact hq
  | .ok .next, hq => exact False.elim hq
  | .ok .brk, hq => exact False.elim hq
  | .ok .cont, hq => exact False.elim hq
  | .error _, hq => exact hq
end
end L3

namespace L3
open PySem PySem.Spec PyProof.Rows L2
section
variable {X : Cx} {e a b c o : Expr} {es : List Expr} {pos p : Pos} {t ta tb tc : E3} {u : A3} {K : Fg} {st : Stmt} {sts body : List Stmt} {s1 s2 : S3} {tA tB : T3} {g g' : G3}
/-! ### statements -/
abbrev En3 := Ends3
def s3Nil : S3 := fun _ D env M => D.nx env M
def s3Seq (t u : S3) : S3 := fun W D env M => t W { nx := fun env' M' => u W D env' M', rt := D.rt, bk := D.bk, ct := D.ct } env M
theorem dss_nil : DSs X [] s3Nil := fun W2 _ _ => pss_nil.imp fun D2 σ H ⟨env, M, W, D3, s, a, l, q, le⟩ => le.nx σ H env M (Tps.refl H) s a q
theorem dss_cons (h1 : DS X st s1) (h2 : DSs X sts s2) : DSs X (st :: sts) (s3Seq s1 s2) := fun W2 tk hp => (pss_cons (h1 W2 tk hp) (h2 W2 tk hp)).imp fun D2 σ H ⟨env, M, W, D3, s, a, l, q, le⟩ =>
  ⟨env, M, W, _, s, a, l, q, ⟨fun σ' H' env' M' t s' a' q' => ⟨env', M', W, D3, s', a', l.mono t, q', le.mono t⟩, le.rt, le.bk, le.ct⟩⟩
theorem dss_one (h1 : DS X st s1) : DSs X [st] s1 := fun W2 tk hp => pss_one (h1 W2 tk hp)
def s3Asg (t : E3) (i : Nat) : S3 := fun W D env M => t W env M fun d M1 => D.nx (env.set i (some d)) M1
theorem ds_set {i : Nat} {x : Str} {pos' : Pos} (hN : X.N.Nodup) (he : DE X e t) (hi : X.N[i]? = some x := by rfl) (hx : Loc X.env.scope x := by first | exact Or.inl rfl | exact Or.inr rfl) (hs : swapsWith e (some (.Name x pos')) pos.line X.env = pure false := by rfl) (hf : X.fn x = true ∨ X.env.scope.names.lookup x = some .local := by first | exact .inl rfl | exact .inr rfl) :
    DS X (.Assign [.Name x pos'] e pos) (s3Asg t i) := fun W2 tk hp => (ps_set hN hi hx (he W2 tk) hs hf).imp fun D2 σ H ⟨env, M, W, D3, s, a, l, q, le⟩ =>
  ⟨env, M, W, _, s, a, l, q, fun d v H1 M1 t1 a1 r1 q1 => le.nx _ H1 _ M1 t1 ((s.mono t1).set i r1) a1 q1⟩
def s3AsgG (t : E3) (g : G3) : S3 := fun W D env M => t W env M fun d M1 => g W d env M1 D.nx
theorem ds_asg {tg : Expr} (he : DE X e t) (hg : DG X tg g) (hs : swapsWithSole [tg] e pos.line X.env = pure false := by rfl) (hw : swappedStores [tg] e X.env = pure none := by rfl)
    (h1 : (assignEach [tg] X.env).map (·.2) = [assign tg X.env] := by rfl) : DS X (.Assign [tg] e pos) (s3AsgG t g) := fun W2 tk hp => (ps_asg (he W2 tk) (hg W2 tk) hs hw h1).imp fun D2 σ H ⟨env, M, W, D3, s, a, l, q, le⟩ =>
  ⟨env, M, W, _, s, a, l, q, fun d v H1 M1 t1 a1 r1 q1 => ⟨d, env, M1, W, _, r1, s.mono t1, a1, l.mono t1, q1, le.nx.mono t1⟩⟩
def s3Expr (t : E3) : S3 := fun W D env M => t W env M fun _ M1 => D.nx env M1
theorem ds_expr (he : DE X e t) (hs : swapsWith e none pos.line X.env = pure false := by rfl) : DS X (.Expr e pos) (s3Expr t) := fun W2 tk hp => (ps_expr (he W2 tk) hs).imp fun D2 σ H ⟨env, M, W, D3, s, a, l, q, le⟩ =>
  ⟨env, M, W, _, s, a, l, q, fun d v H1 M1 t1 a1 r1 q1 => le.nx σ H1 env M1 t1 (s.mono t1) a1 q1⟩
def s3Ret (t : E3) : S3 := fun W D env M => t W env M D.rt
theorem ds_ret (he : DE X e t) : DS X (.Return (some e) pos) (s3Ret t) := fun W2 tk hp => (ps_ret (he W2 tk)).imp fun D2 σ H ⟨env, M, W, D3, s, a, l, q, le⟩ => ⟨env, M, W, _, s, a, l, q, le.rt⟩
def s3RetN : S3 := fun _ D _ M => D.rt .non M
theorem ds_retN : DS X (.Return none pos) s3RetN := fun W2 tk hp => ps_retN.imp fun D2 σ H ⟨env, M, W, D3, s, a, l, q, le⟩ => le.rt _ _ H M (Tps.refl H) a Rv.non q
def s3If (c : T3) (t u : S3) : S3 := fun W D env M => c W env M fun b M1 => Br b (t W D env M1) (u W D env M1)
theorem ds_if {xs ys : List Stmt} (hc : DT X c tA) (ha : DSs X xs s1) (hb : DSs X ys s2) : DS X (.If c xs ys pos) (s3If tA s1 s2) := fun W2 tk hp => (ps_if (hc W2 tk) (ha W2 tk hp) (hb W2 tk hp)).imp fun D2 σ H ⟨env, M, W, D3, s, a, l, q, le⟩ =>
  ⟨env, M, W, _, s, a, l, q, fun b H1 M1 t1 a1 q1 => by
    cases b with
    | true => rw [if_pos rfl]; exact ⟨env, M1, W, D3, s.mono t1, a1, l.mono t1, q1.1 rfl, le.mono t1⟩
    | false => rw [if_neg Bool.false_ne_true]; exact ⟨env, M1, W, D3, s.mono t1, a1, l.mono t1, q1.2 rfl, le.mono t1⟩⟩
theorem ds_pass : DS X (.Pass pos) s3Nil := fun W2 _ _ => ps_pass.imp fun D2 σ H ⟨env, M, W, D3, s, a, l, q, le⟩ => le.nx σ H env M (Tps.refl H) s a q
def s3Brk : S3 := fun _ D env M => D.bk env M
def s3Cont : S3 := fun _ D env M => D.ct env M
theorem ds_break : DS X (.Break pos) s3Brk := fun W2 _ _ => ps_break.imp fun D2 σ H ⟨env, M, W, D3, s, a, l, q, le⟩ => le.bk σ H env M (Tps.refl H) s a q
theorem ds_continue : DS X (.Continue pos) s3Cont := fun W2 _ _ => ps_continue.imp fun D2 σ H ⟨env, M, W, D3, s, a, l, q, le⟩ => le.ct σ H env M (Tps.refl H) s a q
/-! ### targets -/
def g3Name (i : Nat) : G3 := fun _ d env M Q => Q (env.set i (some d)) M
theorem dg_name {i : Nat} {x : Str} (hN : X.N.Nodup) (hi : X.N[i]? = some x := by rfl) (hx : Loc X.env.scope x := by first | exact Or.inl rfl | exact Or.inr rfl) (hf : X.fn x = true ∨ X.env.scope.names.lookup x = some .local := by first | exact .inl rfl | exact .inr rfl) : DG X (.Name x pos) (g3Name i) := fun W2 tk =>
  (pg_name hN hi hx hf).imp fun v σ H Q2 ⟨d, env, M, W, Q, r, s, a, l, q, n⟩ => n _ H _ M (Tps.refl H) (s.set i r) a q
abbrev Gs3 := W3 → List D → En → MH → (En → MH → Prop) → Prop
def lowGs (K : Fg) (W2 : WX) (t : Gs3) : TGs := fun vs σ H Q2 => ∃ ds env M W Q, Rvs K H ds vs ∧ SE K H σ env ∧ Abs K M H ∧ LW K H W W2 ∧ t W ds env M Q ∧ Nxt K H Q Q2
def DGs (X : Cx) (es : List Expr) (t : Gs3) : Prop := ∀ W2, Takes X W2 → PGs X es (lowGs X.K W2 t)
theorem _root_.L2.PGs.imp {X : Cx} {e : List Expr} {t t' : TGs} (h : PGs X e t) (k : ∀ v σ H Q, t' v σ H Q → t v σ H Q) : PGs X e t' := ⟨fun pins s σ H v u Q I r q => h.run pins s σ H v u Q I r (k v σ H Q q)⟩
def g3sNil : Gs3 := fun _ ds env M Q => ds = [] ∧ Q env M
def g3sCons (g : G3) (gs : Gs3) : Gs3 := fun W ds env M Q => match ds with | d :: r => g W d env M fun env' M' => gs W r env' M' Q | [] => False
theorem dgs_nil : DGs X [] g3sNil := fun W2 tk => pgs_nil.imp fun vs σ H Q2 ⟨ds, env, M, W, Q, r, s, a, l, q, n⟩ => by
  obtain ⟨rfl, q⟩ := q
  exact ⟨r.nil_inv, n σ H env M (Tps.refl H) s a q⟩
theorem dgs_cons {gs : Gs3} (h1 : DG X e g) (h2 : DGs X es gs) (hs : (assignEach (e :: es) X.env).map (·.2) = assign e X.env :: (assignEach es X.env).map (·.2) := by rfl) : DGs X (e :: es) (g3sCons g gs) := fun W2 tk =>
  (pgs_cons (h1 W2 tk) (h2 W2 tk) hs).imp fun vs σ H Q2 ⟨ds, env, M, W, Q, r, s, a, l, q, n⟩ => by
    cases ds with
    | nil => exact q.elim
    | cons d ds =>
      obtain ⟨v, vr, rfl, r1, r2⟩ := r.cons_inv
      exact ⟨v, vr, rfl, d, env, M, W, _, r1, s, a, l, q, fun σ' H' env' M' t s' a' q' => ⟨ds, env', M', W, Q, r2.mono t, s', a', l.mono t, q', n.mono t⟩⟩
def g3Tup (k : Nat) (gs : Gs3) : G3 := fun W d env M Q => match d with | .tup ds => ds.length = k ∧ gs W ds env M Q | _ => False
theorem dg_tup {k : Nat} {gs : Gs3} {n : Nat} (hc : X.calm = true) (h : DGs X es gs) (hn : (assignEach es X.env).length = n := by rfl) (hst : (assignEach es X.env).findIdx? (·.1) = none := by rfl) : DG X (.Tuple es k pos) (g3Tup n gs) := fun W2 tk =>
  (pg_tup hc (h W2 tk) hn hst).imp fun v σ H Q2 ⟨d, env, M, W, Q, r, s, a, l, q, n⟩ => by
    cases d with
    | tup ds =>
      obtain ⟨p, vs, rfl, hs, hv⟩ := r.tup_inv
      exact ⟨p, vs, rfl, hs, by rw [← hv.length]; exact q.1, ds, env, M, W, Q, hv, s, a, l, q.2, n⟩
    | _ => exact q.elim
def g3SubL (to ti : E3) : G3 := fun W d env M Q => to W env M fun od M1 => ti W env M1 fun i M2 => match od, i with
  | .ref l, .int k => ∃ ds j, M2 l = some (.lst ds) ∧ ixN ds.length k = some j ∧ Q env (updM M2 l (.lst (ds.set j d)))
  | _, _ => False
theorem dg_subL {i : Expr} (ho : DE X o ta) (hi : DE X i tb) (ha : ∀ v, assign (.Subscript o i pos) X.env v = (do
      let ov ← holding [v] (eval o X.env)
      let iv ← holding [v, ov] (eval i X.env)
      standAt pos
      holding [v, ov, iv] (setItem ov iv v)
      release [v, ov, iv] []) := by intro _; rfl) : DG X (.Subscript o i pos) (g3SubL ta tb) := fun W2 tk => (pg_sub (ho W2 tk) (hi W2 tk) set_list ha).imp fun v σ H Q2 ⟨d, env, M, W, Q, r, s, a, l, q, n⟩ => by
    refine ⟨env, M, W, _, s, a, l, q, fun od ov H1 M1 t1 a1 r1 q1 => ?_⟩
    refine ⟨env, M1, W, _, s.mono t1, a1, l.mono t1, q1, fun i iv H2 M2 t2 a2 r2 q2 => ?_⟩
    have t12 := t1.trans t2
    split at q2
    · obtain ⟨ds, j, hl, hj, q2⟩ := q2
      cases r1.ref_inv; cases r2.int_inv
      obtain ⟨vs, h1, hv⟩ := a2.lst hl
      exact ⟨_, vs, _, j, rfl, rfl, h1, by rw [← hv.length]; exact hj, n σ _ env _ (t12.trans (Tps.lst h1)) (s.mono (t12.trans (Tps.lst h1))) (a2.lstU h1 (hv.set (r.mono t12) j)) q2⟩
    · exact q2.elim
/-! ### for -/
def Loop (ds : List D) (keep : MH → Prop) (g : G3) (tb : S3) (W : W3) (D3 : Ends3) (env : En) (M : MH) : Prop := ∃ Inv : Nat → En → MH → Prop, Inv 0 env M ∧
  (∀ i d env' M', ds[i]? = some d → Inv i env' M' → keep M' ∧ g W d env' M' fun env2 M2 => tb W { nx := Inv (i + 1), rt := D3.rt, bk := D3.nx, ct := Inv (i + 1) } env2 M2) ∧
  ∀ env' M', Inv ds.length env' M' → keep M' ∧ D3.nx env' M'
def s3For (ti : I3) (g : G3) (tb : S3) : S3 := fun W D3 env M => ti W env M fun ds keep M1 => Loop ds keep g tb W D3 env M1
theorem ds_for {tg iter : Expr} {ti : I3} (hc : X.calm = true) (hi : DI X tg iter ti) (hg : DG X tg g) (hb : DSs X body s1) (hs : ∀ x, foldedSetIterable iter X.env x = pure x := by intro _; rfl) : DS X (.For tg iter body [] pos) (s3For ti g s1) := fun W2 tk hp =>
  (ps_for hp hc (hi W2 tk) (hg W2 tk) (hb W2 tk hp) hs).imp fun D2 σ H ⟨env, M, W, D3, s, a, l, q, le⟩ => by
    refine ⟨env, M, W, _, s, a, l, q, fun ds keep J H1 M1 t1 a1 q1 ok => ?_⟩
    obtain ⟨Inv, h0, hst, hd⟩ := q1
    refine ⟨fun i m σ' H' => m = ds.length - i ∧ i ≤ ds.length ∧ ∃ env' M', Tps H1 H' ∧ SE X.K H' σ' env' ∧ Abs X.K M' H' ∧ Inv i env' M', ⟨ds.length, by simp, Nat.zero_le _, env, M1, Tps.refl _, s.mono t1, a1, h0⟩, ?_⟩
    rintro i m σ' H' ⟨rfl, hi, env', M', t2, s', a', iv⟩
    have t12 := t1.trans t2
    by_cases hlt : i < ds.length
    · have hx : ds[i]? = some ds[i] := List.getElem?_eq_getElem hlt
      obtain ⟨hk, hg⟩ := hst i _ env' M' hx iv
      obtain ⟨go, yl⟩ := ok.step i _ H' M' hx t2 a' hk
      refine .inr ⟨go, fun σ2 H2 => ∃ env2 M2, Tps H1 H2 ∧ SE X.K H2 σ2 env2 ∧ Abs X.K M2 H2 ∧ Inv (i + 1) env2 M2, fun σ2 H2 hn => ⟨ds.length - (i + 1), by omega, rfl, hlt, hn⟩, fun x H2 y => ?_⟩
      obtain ⟨t3, a3, r3⟩ := yl x H2 y
      have t123 := t12.trans t3
      refine ⟨ds[i], env', M', W, _, r3, s'.mono t3, a3, l.mono t123, hg, fun σ4 H4 env4 M4 t4 s4 a4 q4 => ?_⟩
      have t1234 := t123.trans t4
      have tt := (t2.trans t3).trans t4
      refine ⟨env4, M4, W, _, s4, a4, l.mono t1234, q4, ⟨fun σ5 H5 env5 M5 t5 s5 a5 q5 => ⟨env5, M5, tt.trans t5, s5, a5, q5⟩, le.rt.mono t1234, le.nx.mono t1234, fun σ5 H5 env5 M5 t5 s5 a5 q5 => ⟨env5, M5, tt.trans t5, s5, a5, q5⟩⟩⟩
    · have e : i = ds.length := by omega
      subst e
      obtain ⟨hk, hn⟩ := hd env' M' iv
      exact .inl ⟨ok.stop H' M' t2 a' hk, le.nx σ' H' env' M' t12 s' a' hn⟩
/-! ### what is walked -/
def True3 : MH → Prop := fun _ => True
def i3Seq (t : E3) : I3 := fun W env M Q => t W env M fun d M1 => match d with
  | .tup ds => Q ds True3 M1
  | .ref l => ∃ ds, LstM M1 l ds ∧ Q ds (fun M' => LstM M' l ds) M1
  | _ => False
theorem itok_tup {H : Hp} {p : Addr} {ds : List D} {vs : List V} (hs : SqT K H p vs) (hv : Rvs K H ds vs) : ItOk K H ds True3 (Itt K p) where
  step := fun i d H' M' hd t a _ => by
    obtain ⟨v, hv', r⟩ := hv.get hd
    refine ⟨⟨vs, v, t.seq hs, hv'⟩, fun x H2 y => ?_⟩
    obtain ⟨rfl, y⟩ := y
    have e := y vs (t.seq hs)
    rw [hv'] at e
    cases e
    exact ⟨Tps.refl _, a, r.mono t⟩
  stop := fun H' M' t a _ => ⟨vs, t.seq hs, Nat.le_of_eq hv.length.symm⟩
theorem itok_lst {H : Hp} {p : Addr} {ds : List D} : ItOk K H ds (fun M' => LstM M' p ds) (Itl K p) where
  step := fun i d H' M' hd t a hk => by
    obtain ⟨vs, hs, hv⟩ := a.rd hk
    obtain ⟨v, hv', r⟩ := hv.get hd
    refine ⟨⟨vs, v, hs, hv'⟩, fun x H2 y => ?_⟩
    obtain ⟨rfl, y⟩ := y
    have e := y vs hs
    rw [hv'] at e
    cases e
    exact ⟨Tps.refl _, a, r⟩
  stop := fun H' M' t a hk => by
    obtain ⟨vs, hs, hv⟩ := a.rd hk
    exact ⟨vs, hs, Nat.le_of_eq hv.length.symm⟩

/-- a list or a tuple, as it comes -/
def iSeq (K : Fg) (tl : TE) : TI := fun σ H R => tl σ H fun x H1 => ∃ a, x = .ref a ∧ (((∃ xs, SqT K H1 a xs) ∧ R (Itt K a) H1) ∨ ((∃ xs, SqL K H1 a xs) ∧ R (Itl K a) H1))
theorem pi_seq {tg l : Expr} {tl : TE} (hl : PE X l tl) : PI X tg l (iSeq X.K tl) := by
  refine ⟨fun pins s σ H R I h => ?_⟩
  refine thn (hl.run pins s σ H _ I h) fun v s1 ⟨x, H1, I1, r1, q1⟩ => ?_
  obtain ⟨a, e, q1⟩ := q1
  subst e
  cases r1
  rcases q1 with ⟨⟨xs, hq⟩, q⟩ | ⟨⟨xs, hq⟩, q⟩
  · obtain ⟨its, rv, p, hz⟩ := I1.tuple hq
    refine wpAny_pyIter_tuple (show s1.heap.IsTuple a its.toArray from p) ?_
    refine ⟨s1.heap.objs.size, [s1.heap.objs.size], _, _, H1, rfl, I1.kept (t' := s1.toks) fun b o e => Heap.get?_push_of_some _ e, turn_tuple a _, ⟨_, Heap.get?_push_size _ rfl, rfl, rfl⟩, fun b hb => ?_, q⟩
    have e : b = s1.heap.objs.size := by simpa using hb
    subst e
    exact I1.fpOk (Nat.le_refl _) (I1.hok.fresh (Nat.le_refl _))
  · obtain ⟨its, rv, p, hz⟩ := I1.list hq
    refine wpAny_pyIter_list p.isList ?_
    refine ⟨s1.heap.objs.size, [s1.heap.objs.size], _, _, H1, rfl, I1.kept (t' := s1.toks) fun b o e => Heap.get?_push_of_some _ e, turn_list a _, ⟨_, Heap.get?_push_size _ rfl, rfl, rfl⟩, fun b hb => ?_, q⟩
    have e : b = s1.heap.objs.size := by simpa using hb
    subst e
    exact I1.fpOk (Nat.le_refl _) (I1.hok.fresh (Nat.le_refl _))
theorem di_seq {tg : Expr} (h : DE X e t) : DI X tg e (i3Seq t) := fun W2 tk => (pi_seq (h W2 tk)).imp fun σ H R ⟨env, M, W, Q, s, a, l, q, k⟩ => by
  refine ⟨env, M, W, _, s, a, l, q, fun d v H1 M1 t1 a1 r1 q1 => ?_⟩
  split at q1
  · rename_i ds
    obtain ⟨p, vs, rfl, hs, hv⟩ := r1.tup_inv
    exact ⟨p, rfl, .inl ⟨⟨vs, hs⟩, k ds _ _ H1 M1 t1 a1 q1 (itok_tup hs hv)⟩⟩
  · obtain ⟨ds, hl, q1⟩ := q1
    cases r1.ref_inv
    obtain ⟨vs, hs, hv⟩ := a1.rd hl
    exact ⟨_, rfl, .inr ⟨⟨vs, hs⟩, k ds _ _ H1 M1 t1 a1 q1 itok_lst⟩⟩
  · exact q1.elim
/-- lo, lo + 1, .., n of them -/
def rngD (lo : Int) (n : Nat) : List D := (List.range n).map fun i => D.int (lo + (i : Nat))
theorem rngD_length {lo : Int} {n : Nat} : (rngD lo n).length = n := by unfold rngD; simp
theorem rngD_get {lo : Int} {n i : Nat} {d : D} (h : (rngD lo n)[i]? = some d) : i < n ∧ d = .int (lo + (i : Nat)) := by
  unfold rngD at h
  rw [List.getElem?_map] at h
  by_cases hi : i < n
  · rw [List.getElem?_range hi] at h
    cases h
    exact ⟨hi, rfl⟩
  · rw [List.getElem?_eq_none (by simpa using hi)] at h
    cases h
theorem itok_rng {H : Hp} {lo : Int} {n : Nat} : ItOk K H (rngD lo n) True3 (Itr lo n) where
  step := fun i d H' M' hd t a _ => by
    obtain ⟨hi, rfl⟩ := rngD_get hd
    refine ⟨hi, fun x H2 y => ?_⟩
    obtain ⟨rfl, rfl⟩ := y
    exact ⟨Tps.refl _, a, Rv.int⟩
  stop := fun H' M' t a _ => by rw [rngD_length]; exact Nat.le_refl n
def i3Rng1 (u : A3) : I3 := fun W env M Q => u W env M fun ds M1 => match ds with
  | [.int j] => -(2 ^ 62) ≤ j ∧ j < 2 ^ 62 ∧ Q (rngD 0 j.toNat) True3 M1
  | _ => False
def i3Rng2 (u : A3) : I3 := fun W env M Q => u W env M fun ds M1 => match ds with
  | [.int i, .int j] => (-(2 ^ 62) ≤ i ∧ i < 2 ^ 62 ∧ -(2 ^ 62) ≤ j ∧ j < 2 ^ 62) ∧ Q (rngD i (j - i).toNat) True3 M1
  | _ => False
theorem di_rng1 {tg a : Expr} (hm : X.mg "range" = none) (ha : DA X [a] u) (hg : Gl X "range" := by rfl) (hs : starEach [a] X.env = [(false, eval a X.env)] := by rfl) : DI X tg (.Call (.Name "range" p) [a] [] pos) (i3Rng1 u) := fun W2 tk =>
  (pi_range1 hg hm (ha W2 tk) hs).imp fun σ H R ⟨env, M, W, Q, s, a, l, q, k⟩ => ⟨env, M, W, _, s, a, l, q, fun ds vs H1 M1 t1 a1 r1 q1 => by
    split at q1
    · obtain ⟨v, rfl, rr⟩ := one_inv r1
      cases rr.int_inv
      exact ⟨_, rfl, q1.1, q1.2.1, k _ _ _ H1 M1 t1 a1 q1.2.2 itok_rng⟩
    · exact q1.elim⟩
theorem di_rng2 {tg a b : Expr} (hm : X.mg "range" = none) (ha : DA X [a, b] u) (hg : Gl X "range" := by rfl) (hs : starEach [a, b] X.env = [(false, eval a X.env), (false, eval b X.env)] := by rfl) (hs2 : starEach [b] X.env = [(false, eval b X.env)] := by rfl) : DI X tg (.Call (.Name "range" p) [a, b] [] pos) (i3Rng2 u) := fun W2 tk =>
  (pi_range2 hg hm (ha W2 tk) hs hs2).imp fun σ H R ⟨env, M, W, Q, s, a, l, q, k⟩ => ⟨env, M, W, _, s, a, l, q, fun ds vs H1 M1 t1 a1 r1 q1 => by
    split at q1
    · obtain ⟨v, w, rfl, rr, rr'⟩ := two_inv r1
      cases rr.int_inv; cases rr'.int_inv
      exact ⟨_, _, rfl, q1.1, k _ _ _ H1 M1 t1 a1 q1.2 itok_rng⟩
    · exact q1.elim⟩
/-! ### comprehensions -/
theorem SE.wipe {H : Hp} {σ : L2.St} {env : En} (s : SE K H σ env) : ∀ vs : List Nat, SE K H (L2.wipe σ vs) (vs.foldr (fun i e => e.set i none) env)
  | [] => s
  | v :: vs => (SE.wipe s vs).unset v
abbrev wipe3 (env : En) (vs : List Nat) : En := vs.foldr (fun i e => e.set i none) env
theorem wipe_set {σ : L2.St} {i : Nat} {v : Option V} : ∀ {vs : List Nat}, i ∈ vs → L2.wipe (σ.set i v) vs = L2.wipe σ vs
  | [], h => by simp at h
  | w :: vs, h => by
    unfold L2.wipe
    by_cases hi : i ∈ vs
    · rw [wipe_set hi]
    · have e : i = w := by simpa [hi] using h
      subst e
      have comm : ∀ (us : List Nat), L2.wipe (σ.set i v) us = (L2.wipe σ us).set i v ∨ i ∈ us := by
        intro us
        induction us with
        | nil => exact .inl rfl
        | cons a us ih =>
          by_cases ha : a = i
          · exact .inr (by simp [ha])
          · rcases ih with ih | ih
            · left
              unfold L2.wipe
              rw [ih, List.set_comm _ _ (fun z => ha z.symm)]
            · exact .inr (by simp [ih])
      rcases comm vs with q | q
      · rw [q, List.set_set]
      · exact absurd q hi
theorem wipe_wipe {σ : L2.St} : ∀ {vs ws : List Nat}, (∀ i ∈ vs, i ∈ ws) → L2.wipe (L2.wipe σ vs) ws = L2.wipe σ ws
  | [], ws, _ => rfl
  | v :: vs, ws, h => by
    show L2.wipe ((L2.wipe σ vs).set v none) ws = _
    rw [wipe_set (h v (by simp)), wipe_wipe fun i hi => h i (by simp [hi])]
abbrev W0 : W3 := fun _ _ _ _ => False
theorem LW0 {H : Hp} : LW K H W0 (fun _ _ _ _ => False) := fun _ _ _ _ _ _ _ _ _ z => z
def DTs (X : Cx) (ifs : List Expr) (t : T3) : Prop := ∀ W2, Takes X W2 → PTs X ifs (lowT X.K W2 t)
theorem _root_.L2.PTs.imp {X : Cx} {e : List Expr} {t t' : TT} (h : PTs X e t) (k : ∀ σ H Q, t' σ H Q → t σ H Q) : PTs X e t' := ⟨fun pins s σ H Q I q => h.run pins s σ H Q I (k σ H Q q)⟩
def t3Yes : T3 := fun _ _ M Q => Q true M
theorem dts_nil : DTs X [] t3Yes := fun W2 tk => pts_nil.imp fun σ H Q2 ⟨env, M, W, Q, s, a, l, q, g⟩ => g true H M (Tps.refl H) a q
theorem dts_one (h : DT X e tA) : DTs X [e] tA := fun W2 tk => pts_one (h W2 tk)
def LoopC (ds : List D) (keep : MH → Prop) (i : Nat) (tt : T3) (te : E3) (env : En) (p : Addr) (M : MH) (Q : MH → Prop) : Prop := ∃ Inv : Nat → List D → MH → Prop, Inv 0 [] (updM M p (.lst [])) ∧
  (∀ k d acc M', ds[k]? = some d → Inv k acc M' → M' p = some (.lst acc) → keep M' ∧ tt W0 (env.set i (some d)) M' fun b M3 => Br b
    (te W0 (env.set i (some d)) M3 fun y M4 => ∃ acc', M4 p = some (.lst acc') ∧ acc'.length < sizeLine ∧ Inv (k + 1) (acc' ++ [y]) (updM M4 p (.lst (acc' ++ [y]))))
    (∃ acc', M3 p = some (.lst acc') ∧ Inv (k + 1) acc' M3)) ∧
  ∀ acc M', Inv ds.length acc M' → M' p = some (.lst acc) → keep M' ∧ Q M'
def e3Lc (ti : I3) (i : Nat) (tt : T3) (te : E3) (vs : List Nat) : E3 := fun W env M Q => ti W env M fun ds keep M1 => ∀ p, M1 p = none → LoopC ds keep i tt te (wipe3 env vs) p M1 fun M' => Q (.ref p) M'
theorem lc_low {ti : I3} {i : Nat} {tt : T3} {te : E3} {vs : List Nat} {W2 W2b : WX} (hv : i ∈ vs) (hW : W2b = fun _ _ _ _ => False) {σ : L2.St} {H : Hp} {Q2 : VK} (h : lowE X.K W2 (e3Lc ti i tt te vs) σ H Q2) :
    tLc (lowI X.K W2 ti) (gName i) (lowT X.K W2b tt) (lowE X.K W2b te) vs σ H Q2 := by
  subst hW
  obtain ⟨env, M, W, Q, s, a, l, q, g⟩ := h
  refine ⟨env, M, W, _, s, a, l, q, fun ds keep J H1 M1 t1 a1 q1 ok => ?_⟩
  intro Dd nD
  obtain ⟨Inv, h0, hst, hd⟩ := q1 Dd (a1.fresh nD)
  have sw := (s.mono t1).wipe vs
  refine ⟨fun k m H' => m = ds.length - k ∧ k ≤ ds.length ∧ ∃ acc M', Tps H1 H' ∧ Abs X.K M' H' ∧ Inv k acc M' ∧ M' Dd = some (.lst acc), ⟨ds.length, by simp, Nat.zero_le _, [], _, Tps.new nD, a1.lstN nD Rvs.nil, h0, updM_same⟩, ?_⟩
  rintro k m H' ⟨rfl, hk, acc, M', t2, a', iv, hD⟩
  by_cases hlt : k < ds.length
  · have hx : ds[k]? = some ds[k] := List.getElem?_eq_getElem hlt
    obtain ⟨hkeep, hg⟩ := hst k _ acc M' hx iv hD
    obtain ⟨go, yl⟩ := ok.step k _ H' M' hx t2 a' hkeep
    refine .inr ⟨go, fun H2 => ∃ acc M2, Tps H1 H2 ∧ Abs X.K M2 H2 ∧ Inv (k + 1) acc M2 ∧ M2 Dd = some (.lst acc), fun H2 hn => ⟨ds.length - (k + 1), by omega, rfl, hlt, hn⟩, fun x H2 y => ?_⟩
    obtain ⟨t3, a3, r3⟩ := yl x H2 y
    have t23 := t2.trans t3
    refine ⟨?_, ?_⟩
    · rw [wipe_set hv, wipe_wipe fun _ h => h]
    · have s2 : SE X.K H2 ((L2.wipe σ vs).set i (some x)) ((wipe3 env vs).set i (some ds[k])) := (sw.mono t23).set i r3
      refine ⟨_, M', W0, _, s2, a3, LW0, hg, fun b H3 M3 t4 a4 q4 => ?_⟩
      cases b with
      | true =>
        rw [if_pos rfl]
        refine ⟨_, M3, W0, _, s2.mono t4, a4, LW0, q4.1 rfl, fun d v H4 M4 t5 a5 r5 q5 => ?_⟩
        obtain ⟨acc', e1, hz, iv'⟩ := q5
        obtain ⟨ws, hw, rw'⟩ := a5.lst e1
        exact ⟨ws, hw, by rw [← rw'.length]; exact hz, acc' ++ [d], _, ((t23.trans t4).trans t5).trans (Tps.lst hw), a5.lstU hw (rw'.app (Rvs.cons r5 Rvs.nil)), iv', updM_same⟩
      | false =>
        rw [if_neg Bool.false_ne_true]
        obtain ⟨acc', e1, iv'⟩ := q4.2 rfl
        exact ⟨acc', M3, t23.trans t4, a4, iv', e1⟩
  · have e : k = ds.length := by omega
    subst e
    obtain ⟨hkeep, hq⟩ := hd acc M' iv hD
    exact .inl ⟨ok.stop H' M' t2 a' hkeep, g _ _ H' M' (t1.trans t2) a' Rv.ref hq⟩
theorem takesF {X : Cx} : Takes X (fun _ _ _ _ => False) := takes0
theorem d_lc {elt iter : Expr} {ifs : List Expr} {scope : Scope} {x : Str} {i : Nat} {p' : Pos} {ti : I3} {tt : T3} {te : E3} (own : List (Str × Nat)) (hc : X.calm = true) (hN : X.N.Nodup) (hi : DI X (.Name x p') iter ti) (ok : BlkOk X.N X.env.scope scope own) (hv : i ∈ own.map (·.2))
    (hg : ∀ (s : Shared) (H : Hp) (C : Addr) (cl : List (Str × Addr)) (fp : List Addr), PG (X.blk s H scope (compEnvC scope cl C X.env) fp) (.Name x p') (gName i))
    (ht : ∀ (s : Shared) (H : Hp) (C : Addr) (cl : List (Str × Addr)) (fp : List Addr), DTs (X.blk s H scope (compEnvC scope cl C X.env) fp) ifs tt)
    (he : ∀ (s : Shared) (H : Hp) (C : Addr) (cl : List (Str × Addr)) (fp : List Addr), DE (X.blk s H scope (compEnvC scope cl C X.env) fp) elt te) (hs : ∀ x, foldedSetIterable iter X.env x = pure x := by intro _; rfl) :
    DE X (.ListComp elt [⟨.Name x p', iter, ifs, 0⟩] scope pos) (e3Lc ti i tt te (own.map (·.2))) := fun W2 tk =>
  (pe_lc hc hN (hi W2 tk) ok hg (fun s H C cl fp => ht s H C cl fp _ takesF) (fun s H C cl fp => he s H C cl fp _ takesF) hs).imp fun σ H Q2 h => lc_low hv rfl h
theorem ds_setLc {y : Str} {py : Pos} {j : Nat} {spos : Pos} {elt iter : Expr} {ifs : List Expr} {scope : Scope} {x : Str} {i : Nat} {p' : Pos} {ti : I3} {tt : T3} {te : E3} (own : List (Str × Nat)) (hc : X.calm = true) (hN : X.N.Nodup) (hi : DI X (.Name x p') iter ti) (ok : BlkOk X.N X.env.scope scope own) (hv : i ∈ own.map (·.2))
    (hg : ∀ (s : Shared) (H : Hp) (C : Addr) (cl : List (Str × Addr)) (fp : List Addr), PG (X.blk s H scope (compEnvC scope cl C X.env) fp) (.Name x p') (gName i))
    (ht : ∀ (s : Shared) (H : Hp) (C : Addr) (cl : List (Str × Addr)) (fp : List Addr), DTs (X.blk s H scope (compEnvC scope cl C X.env) fp) ifs tt)
    (he : ∀ (s : Shared) (H : Hp) (C : Addr) (cl : List (Str × Addr)) (fp : List Addr), DE (X.blk s H scope (compEnvC scope cl C X.env) fp) elt te)
    (hy : X.N[j]? = some y := by rfl) (hyl : X.env.scope.names.lookup y = some .local := by rfl)
    (hsw : swapsWith (.ListComp elt [⟨.Name x p', iter, ifs, 0⟩] scope pos) (some (.Name y py)) spos.line X.env = pure true := by exact sw_true rfl rfl rfl (by decide +kernel)) (hs : ∀ x, foldedSetIterable iter X.env x = pure x := by intro _; rfl) :
    DS X (.Assign [.Name y py] (.ListComp elt [⟨.Name x p', iter, ifs, 0⟩] scope pos) spos) (s3Asg (e3Lc ti i tt te (own.map (·.2))) j) := fun W2 tk hp =>
  (ps_setLc hc hN hy hyl hsw (hi W2 tk) ok hg (fun s H C cl fp => ht s H C cl fp _ takesF) (fun s H C cl fp => he s H C cl fp _ takesF) hs).imp fun D2 σ H ⟨env, M, W, D3, s, a, l, q, le⟩ =>
    lc_low (Q2 := fun x H1 => gName j x σ H1 D2.nx) hv rfl ⟨env, M, W, _, s, a, l, q, fun d v H1 M1 t1 a1 r1 q1 => le.nx _ H1 _ M1 t1 ((s.mono t1).set j r1) a1 q1⟩
end
end L3

namespace L3
open PySem PySem.Spec PyProof.Rows L2
section
variable {X : Cx} {e a b c o : Expr} {es : List Expr} {pos p : Pos} {t ta tb tc to te : E3} {u : A3} {K : Fg} {st : Stmt} {sts body : List Stmt} {s1 s2 : S3} {tA tB : T3}
/-! ### methods of lists -/
/-- the receiver is a list that may change; the arguments; what the method does -/
def e3Bm (m : Addr → List D → MH → Q3 → Prop) (to : E3) (u : A3) : E3 := fun W env M Q => to W env M fun od M1 => match od with
  | .ref l => (∃ ds, LstM M1 l ds) ∧ u W env M1 fun xs M2 => m l xs M2 Q
  | _ => False
def MtL (K : Fg) (r : V → List V → Hp → VK → Prop) (m : Addr → List D → MH → Q3 → Prop) : Prop := ∀ l xs vs H M Q Q2, Rvs K H xs vs → Abs K M H → m l xs M Q → Got K H Q Q2 → r (.ref l) vs H Q2
theorem bm_low {r : V → List V → Hp → VK → Prop} {m : Addr → List D → MH → Q3 → Prop} {W2 : WX} (hl : MtL X.K r m) {σ : L2.St} {H : Hp} {Q2 : VK} (h : lowE X.K W2 (e3Bm m to u) σ H Q2) : tBM X.K "list" r (lowE X.K W2 to) (lowA X.K W2 u) σ H Q2 := by
  obtain ⟨env, M, W, Q, s, a, l, q, g⟩ := h
  refine ⟨env, M, W, _, s, a, l, q, fun od v H1 M1 t1 a1 r1 q1 => ?_⟩
  split at q1
  · obtain ⟨⟨ds, hl'⟩, q1⟩ := q1
    cases r1.ref_inv
    obtain ⟨vs, hs, _⟩ := a1.rd hl'
    refine ⟨.inl ⟨rfl, vs, hs⟩, env, M1, W, _, s.mono t1, a1, l.mono t1, q1, fun xs ws H2 M2 t2 a2 r2 q2 => ?_⟩
    exact hl _ xs ws H2 M2 Q Q2 r2 a2 q2 (g.mono (t1.trans t2))
  · exact q1.elim
theorem d_bm {name : Str} {id : String} {r : V → List V → Hp → VK → Prop} {m : Addr → List D → MH → Q3 → Prop} {apos cpos : Pos} (slot : Slot "list" name id) (hty : typeOf (.builtin id) = pure (.type "method_descriptor")) (hm : MtR X id r) (hl : MtL X.K r m) (ho : DE X o to) (ha : DA X (e :: es) u)
    (hbase : attributeBase o name X.env (eval o X.env) = eval o X.env := by rfl)
    (hfew : ((backTo cpos (starEach (e :: es) X.env)).all (fun x => !x.1) && (backToKw cpos (keywordEach [] X.env)).all (fun x => x.1.isSome)
      && decide ((e :: es).length + ([] : List Keyword).length + (if ([] : List Keyword).isEmpty then 0 else 1) < 30)) = true := by rfl)
    (hline : (apos.endLine == cpos.line) = true := by rfl) (hs : starEach (e :: es) X.env = (false, eval e X.env) :: starEach es X.env := by rfl) (hplain : (backTo cpos (starEach es X.env)).any (·.1) = false := by rfl) :
    DE X (.Call (.Attribute o name apos) (e :: es) [] cpos) (e3Bm m to u) := fun W2 tk => (pe_bm PySem.F.plainAttrs_list slot hty hm (ho W2 tk) (ha W2 tk) hbase hfew hline hs hplain).imp fun σ H Q2 h => bm_low hl h
def m3App (l : Addr) : List D → MH → Q3 → Prop
  | [d], M, Q => ∃ ds, M l = some (.lst ds) ∧ ds.length < sizeLine ∧ Q .non (updM M l (.lst (ds ++ [d])))
  | _, _, _ => False
theorem ml_app : MtL K rAppend m3App := by
  intro l xs vs H M Q Q2 r a q g
  unfold m3App at q
  split at q
  · obtain ⟨v, rfl, rr⟩ := one_inv r
    obtain ⟨ds, h1, hz, q⟩ := q
    obtain ⟨ws, hw, rw'⟩ := a.lst h1
    exact ⟨l, ws, v, rfl, rfl, hw, by rw [← rw'.length]; exact hz, g _ _ _ _ (Tps.lst hw) (a.lstU hw (rw'.app (Rvs.cons rr Rvs.nil))) Rv.non q⟩
  · exact q.elim
theorem d_append {apos cpos : Pos} (ho : DE X o to) (ha : DA X [e] u) (hbase : attributeBase o "append" X.env (eval o X.env) = eval o X.env := by rfl)
    (hfew : ((backTo cpos (starEach (e :: []) X.env)).all (fun x => !x.1) && (backToKw cpos (keywordEach [] X.env)).all (fun x => x.1.isSome)
      && decide ((e :: []).length + ([] : List Keyword).length + (if ([] : List Keyword).isEmpty then 0 else 1) < 30)) = true := by rfl)
    (hline : (apos.endLine == cpos.line) = true := by rfl) (hs : starEach (e :: []) X.env = (false, eval e X.env) :: starEach [] X.env := by rfl) (hplain : (backTo cpos (starEach [] X.env)).any (·.1) = false := by rfl) :
    DE X (.Call (.Attribute o "append" apos) [e] [] cpos) (e3Bm m3App to u) := d_bm PySem.F.slot_list_append PySem.F.type_list_append mt_append ml_app ho ha hbase hfew hline hs hplain
/-! ### the rule of a def -/
def startE (N : List Str) (ds : List D) : En := ds.map some ++ List.replicate (N.length - ds.length) none
def rtX (E : Value → Option Addr → MH → Prop) : W3 := fun cls dd _ M' => ∃ M'', Sub M'' M' ∧ E cls dd M''
def rtD (Q : Q3) : Ends3 := { nx := fun _ M' => ∃ M'', Sub M'' M' ∧ Q .non M'', rt := fun d M' => ∃ M'', Sub M'' M' ∧ Q d M'' }
/-- the body's reading keeps the promise -/
def Rd3 (N : List Str) (t : S3) (sp : Sp3) : Prop := ∀ ds M Q E, sp ds M Q E → t (rtX E) (rtD Q) (startE N ds) M
theorem fn3_ok {P : Program} {w : World} {K : Fg} {mg : Str → Option Value} {base : Heap} {x qual : Str} {st : Stmt} {f : Addr} {fd : FuncData} {N ps : List Str} {k : Nat} {sp : Sp3} {t : S3} (F : Fun K x qual st f fd) (S : FnScope N ps (defScope st)) (len : ∀ ds M Q E, sp ds M Q E → ds.length = ps.length)
    (hbody : ∀ (cdv : Value) (A : Around) (outer : List Env) (s : Shared) (H : Hp) (E : XK), RoomG k (A.deeper (envOfC qual (defScope st) s.heap.objs.size f cdv)) → DSs (cxOf (L2.CX P w) P w K mg base N qual (defScope st) f cdv A outer s H E) (defBody st) t)
    (rd : Rd3 N t sp) : Fn3 P w K mg base (k + 1) f fd ps sp := by
  obtain ⟨oc, od, kV, doc, pm, an, cdv, ct, osl, rfl, lk, hcd⟩ := F.ex
  refine ⟨len, fun A outer s H ar ws zs Q2 E2 room e0 hb rv low => ?_⟩
  have many : zs.length = ps.length := low_many len low
  have keepB : ∀ (b : Addr) (o : Obj), base.get? b = some o → s.heap.get? b = some o := fun b o e => (e0.bs b o e).1
  have inS : K.In s.heap := e0.mod.kin.keeps keepB
  have kinds : ∀ y ∈ ps.zip ws, (defScope st).names.lookup y.1 = some .local ∨ ((defScope st).names.lookup y.1 = some .cell ∧ ((cellsFrom (s.heap.objs.size + 1) (defScope st).names []).lookup y.1).isSome = true) := fun y hy =>
    (S.par y.1 (List.of_mem_zip (b := y.2) hy).1).imp id fun q => ⟨q, PySem.W.cellsFrom_some _ _ _ (.inl q)⟩
  refine codeAny_call_function room.r.depth (inS _ _ lk) rfl S.co S.gen rfl (PySem.W.codeRec_of inS hcd) (hb _ _ _ _ (wpAny_newFunctionEnv_cells S.kind kinds fun env he s1 x => ?_))
  subst he
  refine ⟨(e0.mod.nolimit.keeps keepB).keeps x.toInCall.keep, codeAny_func ?_⟩
  obtain ⟨ds, M, Q, E, r, a, h, g, ge⟩ := low
  have tk : Takes (cxOf (L2.CX P w) P w K mg base N qual (defScope st) f cdv A outer s H E2) (fun cls d _ H => E2 cls d H) := takes_of rfl rfl rfl rfl
  have hp : Pass (cxOf (L2.CX P w) P w K mg base N qual (defScope st) f cdv A outer s H E2) := PassesOwn.leaving
  have I : Inv (cxOf (L2.CX P w) P w K mg base N qual (defScope st) f cdv A outer s H E2) [] (start N zs) H s1 := inv_start S room.r.hd e0 many rv x
  have wish : lowS K (fun cls d _ H => E2 cls d H) t { nx := fun _ H' => Q2 .non H', rt := Q2 } (start N zs) H := ⟨startE N ds, M, rtX E, rtD Q, SE.start N r, a, fun cls dd σ' H' env' M' t s' a' ⟨M'', sub, e⟩ => ge cls dd H' M'' t (a'.sub sub) e, rd ds M Q E h,
    fun σ' H' env' M' t s' a' ⟨M'', sub, q⟩ => g .non .non H' M'' t (a'.sub sub) Rv.non q, fun d v H' M' t a' r' ⟨M'', sub, q⟩ => g d v H' M'' t (a'.sub sub) r' q, fun _ _ _ _ _ _ _ z => z.elim, fun _ _ _ _ _ _ _ z => z.elim⟩
  refine wpAny_mono ((hbody cdv A outer s H E2 (room.down _) _ tk hp).run [] s1 (start N zs) H _ I wish) (fun fl s' hs => ?_) fun _ _ hs => hs
  match fl, hs with
  | .ret u, ⟨v, σ', H', J, rr, q⟩ => exact ⟨v, H', J.os, J.bare, J.base, J.hok, rr, q⟩
  | .next, ⟨σ', H', J, q⟩ => exact ⟨V.non, H', J.os, J.bare, J.base, J.hok, rfl, q⟩
  | .brk, ⟨_, _, _, q⟩ => exact False.elim q
  | .cont, ⟨_, _, _, q⟩ => exact False.elim q
/-! ### raise, try -/
def s3Raise (C : Addr) : S3 := fun W _ env M => W (.ref C) none env M
theorem ds_raise {C : Addr} {bmB : List Value} {B newId initId : String} {x m : Str} {j : Nat} {p p2 pos' pos2 : Pos} (F : ExcBaseFacts B newId initId bmB) (q : PySem.W.excIn X.K C bmB newId = true) (gC : X.mg x = some (.ref C)) (kC : PySem.W.keepIn X.K (.ref C) = true) (r : Raises X (.ref C)) (hc : X.calm = true) (hg : Gl X x := by rfl)
    (hdb : (x == ("__debug__" : Str)) = false := by decide) : DS X (.Raise (some (.Call (.Name x p) [.Constant (.str m) j p2] [] pos')) none pos2) (s3Raise C) := fun W2 tk hp =>
  (ps_raise hc tk (pmk_own F q gC kC r hg hdb)).imp fun D2 σ H ⟨env, M, W, D3, s, a, l, q, le⟩ => l _ _ σ H env M (Tps.refl H) s a q
def s3Try (K : Fg) (c : Value) (body hd : S3) : S3 := fun W D env M => body (fun cls dd env' M' => ∃ b, PySem.W.exmOne K cls c = some b ∧ (b = true → hd W0 D env' M') ∧ (b = false → W cls dd env' M')) D env M
theorem ds_try {x : Str} {c : Value} {b₀ : Stmt} {suite : List Stmt} {np pos' : Pos} (hs : X.stack = X.env :: X.outer) (hf : X.env.frame = some X.env.locals) (hc : Names X x c)
    (hb : ∀ (pn : List (Addr × Obj)) (xe : Value → Shared → Prop), DSs (X.tr pn xe) body s1)
    (hsu : ∀ (a : Addr) (oe : Obj) (pn : List (Addr × Obj)), DSs (X.suite a ((a, oe) :: pn)) (b₀ :: suite) s2) :
    DS X (.Try body [.ExceptHandler (some (.Name x np)) none (b₀ :: suite) pos'] [] [] pos) (s3Try X.K c s1 s2) := fun W2 tk hp =>
  (ps_try_only (tb := fun W => lowS X.K W s1) (ts := fun _ _ _ => lowS X.K (fun _ _ _ _ => False) s2) (Wout := W2) hs hf hc tk (fun W pn xe tk' hp' => hb pn xe W tk' hp') (fun a oe cls d pn _ _ => hsu a oe pn _ takes0 PassesOwn.never)).imp fun D2 σ H ⟨env, M, W, D3, s, a, l, q, le⟩ =>
    ⟨env, M, _, D3, s, a, fun cls dd σ' H' env' M' t s' a' ⟨b, e, h1, h2⟩ => ⟨b, e, fun hb a0 na => ⟨env', M', W0, D3, s', a', LW0, h1 hb, le.mono t⟩, fun hb => l cls dd σ' H' env' M' t s' a' (h2 hb)⟩, q, le⟩
end
/-! ### steps of a reading -/
theorem Rd3.intro {N : List Str} {t : S3} {sp : Sp3} (h : ∀ ds M Q E, sp ds M Q E → t (rtX E) (rtD Q) (startE N ds) M) : Rd3 N t sp := h
end L3
namespace L3
open PySem PySem.Spec PyProof.Rows L2
/-- a def that may be called -/
structure Cal (P : Program) (w : World) (K : Fg) (mg : Str → Option Value) (base : Heap) (k : Nat) (f : Addr) (fd : FuncData) (x : Str) (ps : List Str) (sp : Sp3) : Prop where
  F : Fn3 P w K mg base k f fd ps sp
  m : mg x = some (.ref f)
  kp : PySem.W.keepIn K (.ref f) = true
  b : Binds K fd ps []
theorem Cal.mono {P : Program} {w : World} {K : Fg} {mg : Str → Option Value} {base : Heap} {k j : Nat} {f : Addr} {fd : FuncData} {x : Str} {ps : List Str} {sp : Sp3} (C : Cal P w K mg base k f fd x ps sp) (h : k ≤ j) : Cal P w K mg base j f fd x ps sp := ⟨C.F.mono h, C.m, C.kp, C.b⟩
theorem d_callC {X : Cx} {k j : Nat} {f : Addr} {fd : FuncData} {ps : List Str} {sp : Sp3} {x : Str} {e : Expr} {es : List Expr} {u : A3} {p pos : Pos} (C : Cal X.prog X.w X.K X.mg X.base k f fd x ps sp) (hr : RoomG j X.A) (ha : DA X (e :: es) u) (hj : k ≤ j := by decide) (hg : Gl X x := by rfl) (hdb : (x == ("__debug__" : Str)) = false := by decide)
    (he : starEach (e :: es) X.env = (false, eval e X.env) :: starEach es X.env := by rfl) (hpl : (backTo pos (starEach es X.env)).any (·.1) = false := by rfl) : DE X (.Call (.Name x p) (e :: es) [] pos) (e3Call sp u) := d_call C.F (hr.mono hj) C.m C.kp C.b ha hg hdb he hpl
theorem fn3_none {P : Program} {w : World} {K : Fg} {mg : Str → Option Value} {base : Heap} {k : Nat} {f : Addr} {fd : FuncData} {ps : List Str} : Fn3 P w K mg base k f fd ps (fun _ _ _ _ => False) :=
  ⟨fun _ _ _ _ h => h.elim, fun A outer s H ar ws zs Q E _ _ _ _ ⟨_, _, _, _, _, _, h, _⟩ => h.elim⟩
/-- a constant of the module -/
def Cst (mg : Str → Option Value) (x : Str) (v : V) : Prop := ∃ u, mg x = some u ∧ RelV v u
theorem d_cst {X : Cx} {x : Str} {i : Int} {pos : Pos} (h : Cst X.mg x (.int i)) (hg : Gl X x := by rfl) (hd : (x == ("__debug__" : Str)) = false := by decide) : DE X (.Name x pos) (e3C (.int i)) := by
  obtain ⟨u, hm, r⟩ := h
  exact d_globI hg hm r hd
/-- what is known of an own exception's class -/
structure ExcT (K : Fg) (mg : Str → Option Value) (x : Str) (C : Addr) : Prop where
  g : mg x = some (.ref C)
  x : PySem.W.excIn K C [.type "ValueError", .type "Exception", .type "BaseException", .type "object"] "ValueError.__new__" = true
  k : PySem.W.keepIn K (.ref C) = true
  b : PySem.W.subIn K (.ref C) (.type "BaseException") = some true
  t : PySem.W.typeIn K (.ref C) = some (.type "type")
theorem ds_raiseT {X : Cx} {C : Addr} {x m : Str} {j : Nat} {p p2 pos' pos2 : Pos} (T : ExcT X.K X.mg x C) (hc : X.calm = true := by rfl) (hg : Gl X x := by rfl)
    (hdb : (x == ("__debug__" : Str)) = false := by decide) : DS X (.Raise (some (.Call (.Name x p) [.Constant (.str m) j p2] [] pos')) none pos2) (s3Raise C) := ds_raise PySem.F.excBase_ValueError T.x T.g T.k (raises_own T.b T.t) hc hg hdb
/-- an error of the class at S is what «except S» names -/
theorem exm_of {K : Fg} {S C : Addr} (h1 : PySem.W.subIn K (.ref C) (.type "BaseException") = some true) (h2 : PySem.W.isClsIn K C = true) (h3 : PySem.W.typeIn K (.ref C) = some (.type "type")) {b : Bool} (h4 : PySem.W.subIn K (.ref S) (.ref C) = some b) :
    PySem.W.exmOne K (.ref S) (.ref C) = some b := by
  have e1 : (PySem.W.subIn K (.ref C) (.type "BaseException") == some true) = true := by rw [h1] <;> rfl
  have e2 : ((PySem.W.clsIn K C).isSome && PySem.W.typeIn K (.ref C) == some (.type "type")) = true := by
    have h2' : (PySem.W.clsIn K C).isSome = true := h2
    rw [h2', h3] <;> rfl
  show (if (PySem.W.subIn K (.ref C) (.type "BaseException") == some true) = true then (if ((PySem.W.clsIn K C).isSome && PySem.W.typeIn K (.ref C) == some (.type "type")) = true then PySem.W.subIn K (.ref S) (.ref C) else none) else none) = some b
  rw [if_pos e1, if_pos e2]
  exact h4
/-! ### the law -/
def noList (K : Fg) : Bool := K.all fun p => p.2.cls != .type "list"
theorem mem_of_lookup' : ∀ {K : Fg} {a : Addr} {o : Obj}, K.lookup a = some o → (a, o) ∈ K
  | [], _, _, h => by simp at h
  | (b, u) :: K, a, o, h => by
    rw [List.lookup_cons] at h
    cases hb : a == b with
    | true =>
      rw [hb] at h
      cases h
      have : a = b := by simpa using hb
      subst this
      exact List.mem_cons_self
    | false =>
      rw [hb] at h
      exact List.mem_cons_of_mem _ (mem_of_lookup' h)
theorem noList_at {K : Fg} {h : Heap} {a : Addr} {o : Obj} (hk : noList K = true) (hK : K.In h) (ha : h.get? a = some o) (hc : o.cls = .type "list") : K.lookup a = none := by
  cases q : K.lookup a with
  | none => rfl
  | some z =>
    have e := hK a z q
    rw [ha] at e
    cases e
    have := List.all_eq_true.mp hk _ (mem_of_lookup' q)
    rw [hc] at this
    simp at this
/-- the law's promise: from the script alone -/
def spLaw3 (n : Nat) : Sp3 := fun ds M Q _ => ∃ (a : Addr) (ns : List Int), ds = [.ref a] ∧ ns.length ≤ n ∧ M a = some (.ro (ns.map D.int)) ∧ (∀ b, b ≠ a → M b = none) ∧ ∀ M', Q (.bl true) M'
/-! ### a call by keywords alone, in the parameters' order -/
def BindsK (K : Fg) (fd : FuncData) (ps : List Str) : Prop := ∀ (s : Shared) (ws : List Value), K.In s.heap → ws.length = ps.length → BindsTo s fd ⟨[], ps.zip ws⟩ (ps.zip ws)
theorem BindsK.all {K : Fg} {fd : FuncData} {ps : List Str} (h : ∀ us : List Value, us.length = ps.length → bindArgs fd ⟨[], ps.zip us⟩ = pure (ps.zip us)) : BindsK K fd ps := fun s us _ hl => .of_eq (h us hl)
def DK (X : Cx) (kws : List Keyword) (t : A3) : Prop := ∀ W2, Takes X W2 → PK X kws (lowA X.K W2 t)
section
variable {X : Cx} {e : Expr} {kws : List Keyword} {t : E3} {u : A3} {nm : Option Str} {kpos p pos : Pos} {k j : Nat} {f : Addr} {fd : FuncData} {ps : List Str} {sp : Sp3} {x : Str}
theorem _root_.L2.PK.imp {X : Cx} {e : List Keyword} {t t' : TA} (h : PK X e t) (k : ∀ σ H Q, t' σ H Q → t σ H Q) : PK X e t' := ⟨fun pos pins s σ H Q I q => h.run pos pins s σ H Q I (k σ H Q q)⟩
theorem dk_nil : DK X [] a3Nil := fun W2 _ => pk_nil.imp fun σ H Q2 ⟨env, M, W, Q, s, a, l, q, g⟩ => g [] [] H M (Tps.refl H) a Rvs.nil q
theorem dk_cons (ha : DE X e t) (hr : DK X kws u) : DK X (⟨nm, e, kpos⟩ :: kws) (a3Cons t u) := fun W2 tk =>
  (pk_cons (ha W2 tk) (hr W2 tk)).imp fun σ H Q2 ⟨env, M, W, Q, s, a, l, q, g⟩ => ⟨env, M, W, _, s, a, l, q, fun d v H1 M1 t1 a1 r1 q1 =>
    ⟨env, M1, W, _, s.mono t1, a1, l.mono t1, q1, fun ds vs H2 M2 t2 a2 r2 q2 => g _ _ H2 M2 (t1.trans t2) a2 (Rvs.cons (r1.mono t2) r2) q2⟩⟩
theorem d_callKw (C : Cal X.prog X.w X.K X.mg X.base k f fd x ps sp) (bk : BindsK X.K fd ps) (hr : RoomG j X.A) (ha : DK X kws u) (hj : k ≤ j := by decide) (hg : Gl X x := by rfl) (hdb : (x == ("__debug__" : Str)) = false := by decide)
    (hall : (backToKw pos (keywordEach kws X.env)).all (·.1.isSome) = true := by rfl) (hks : (backToKw pos (keywordEach kws X.env)).filterMap (·.1) = ps := by rfl)
    (hpl : ((backTo pos (starEach [] X.env)).any (·.1) || (backToKw pos (keywordEach kws X.env)).any (·.1.isNone)) = false := by rfl) : DE X (.Call (.Name x p) [] kws pos) (e3Call sp u) := fun W2 tk => by
  refine ⟨fun pins s σ H Q2 I h => ?_⟩
  obtain ⟨env, M, W, Q, se, a, l, q, g⟩ := h
  refine wpAny_Call_Name_kw (ld_glob I hg C.m ?_ hdb)
  refine PySem.W.callWith_KW0 (h₀ := X.base) I.ok.mod.kin C.kp hall (thn ((ha W2 tk).run pos pins s σ H (fun vs H1 => lowF X.K sp vs H1 Q2 (WE W2 σ)) I ⟨env, M, W, _, se, a, l, q, fun ds vs H1 M1 t1 a1 r1 q1 => ⟨ds, M1, Q, _, r1, a1, q1, g.mono t1, fun cls dd H' M' t2 a2 w => l cls dd σ H' env M' (t1.trans t2) (se.mono (t1.trans t2)) a2 w⟩⟩) fun ws s1 ⟨zs, H1, I1, rz, q2⟩ => ⟨I1.kIn, ?_⟩) hpl
  rw [hks]
  have hn : ws.length = ps.length := rz.length.symm.trans (low_many C.F.many q2)
  refine wpAny_call (codeAny_mono (enter3 C.F (hr.mono hj) tk I1 (bk s1 ws I1.kIn hn) rz q2) fun r s' hq => ?_)
  match r, hq with
  | .ok (.ret _), hq => exact hq
  | .ok .next, hq => exact False.elim hq
  | .ok .brk, hq => exact False.elim hq
  | .ok .cont, hq => exact False.elim hq
  | .error _, hq => exact hq
end
/-! ### the end of a row -/
/-- the heap of the top: the script alone is tracked, frozen -/
def topH (a : Addr) (o : Obj) (vs : List V) : Hp := fun b => if b = a then some (.frz o (.lst vs)) else none
theorem topH_at {a : Addr} {o : Obj} {vs : List V} : topH a o vs a = some (.frz o (.lst vs)) := if_pos rfl
theorem topH_out {a b : Addr} {o : Obj} {vs : List V} (h : b ≠ a) : topH a o vs b = none := if_neg h
theorem topH_inv {a b : Addr} {o : Obj} {vs : List V} {u : HO} (h : topH a o vs b = some u) : b = a ∧ u = .frz o (.lst vs) := by
  by_cases e : b = a
  · subst e
    rw [topH_at] at h
    exact ⟨rfl, by cases h; rfl⟩
  · rw [topH_out e] at h
    cases h
theorem top_run {P : Program} {w : World} {K : Fg} {mg mb : Str → Option Value} {k n : Nat} {fa a : Addr} {fd : FuncData} {s₁ : Shared} {us : List Value} {ns : List Int}
    (KX : K.In s₁.heap) (hns : s₁.heap.Ns mainGlobals mg) (hb : s₁.heap.Ns builtinsNs mb) (hbb : ∀ x : Str, x ≠ "__name__" → mb x = bootBuiltins x) (hlim : s₁.heap.NoLimit) (hg : s₁.gens = #[]) (hnl : noList K = true)
    (ha : s₁.heap.get? a = some { cls := .type "list", data := .seq us.toArray }) (hi : IntsAre us ns) (hl : ns.length ≤ n) (hl2 : n ≤ sizeLine) (hr : RoomG k callerA)
    (F : ∀ base : Heap, K.In base → base.Ns mainGlobals mg → Fn3 P w K mg base k fa fd ["script"] (spLaw3 n)) (hbind : ∀ (s : Shared) (u : Value), BindsTo s fd ⟨[u], []⟩ [("script", u)]) :
    codeAny (model P w) callerA (.call (.ref fa) ⟨[.ref a], []⟩) (fun r s' => r = .ok (.ret (.bool true)) ∧ OldK s₁.heap s'.heap ∧ s'.os = s₁.os ∧ AllBare s'.gens) s₁ := by
  have rv : Vals (ns.map V.int) us := vals_ints hi
  have kn : K.lookup a = none := noList_at hnl KX ha rfl
  generalize hT : topH a { cls := .type "list", data := .seq us.toArray } (ns.map V.int) = T
  have atA : T a = some (.frz { cls := .type "list", data := .seq us.toArray } (.lst (ns.map V.int))) := by rw [← hT]; exact topH_at
  have out : ∀ {b : Addr}, b ≠ a → T b = none := fun h => by rw [← hT]; exact topH_out h
  have inv : ∀ {b : Addr} {u : HO}, T b = some u → b = a ∧ u = .frz { cls := .type "list", data := .seq us.toArray } (.lst (ns.map V.int)) := fun h => by rw [← hT] at h; exact topH_inv h
  have okT : HOk P w T s₁.heap := fun b u z => by
    obtain ⟨rfl, rfl⟩ := inv z
    exact ⟨ha, by rw [List.length_map]; exact Nat.le_trans hl hl2, us, 0, rv, ha⟩
  have stay : ∀ {b : Addr} {o : Obj}, s₁.heap.get? b = some o → b ≠ a → (hidT s₁.heap T).get? b = some o := fun e h => hidT_get e (out h)
  have nsT : ∀ {b : Addr} {m : Str → Option Value}, s₁.heap.Ns b m → (hidT s₁.heap T).Ns b m := fun {b m} ⟨o, es, ep, e, d, r⟩ => ⟨o, es, ep, stay e (fun z => by
    subst z
    rw [ha] at e
    cases e
    have d' : Data.seq us.toArray _ = Data.dict es ep := d
    cases d'), d, r⟩
  have inT : K.In (hidT s₁.heap T) := fun b o e => stay (KX b o e) fun z => by
    subst z
    rw [kn] at e
    cases e
  have e0 : Env0 P w K mg (hidT s₁.heap T) callerA [] s₁ T := ⟨rfl, ⟨inT, nsT hns, ⟨mb, nsT hb, hbb⟩, hlim.imp fun mc h => ⟨nsT h.1, h.2⟩⟩, fun b o e => of_hidT e, Nat.le_of_eq (hidT_size _ _), trivial, fun b h => absurd (show b ∈ ([] : List Addr) from h) (by simp), okT, .of_eq hg⟩
  have low : lowF K (spLaw3 n) [.ref a] T (fun v _ => v = .bl true) fun _ _ _ => False := ⟨[.ref a], fun b => if b = a then some (.ro (ns.map D.int)) else none, fun d _ => d = .bl true, fun _ _ _ => False, Rvs.cons Rv.ref Rvs.nil, fun b u z => (by
      by_cases h : b = a
      · subst h
        simp only [if_pos rfl] at z
        cases z
        exact ⟨_, _, atA, Rvs.ints⟩
      · simp only [if_neg h] at z
        cases z), ⟨a, ns, rfl, hl, if_pos rfl, fun b h => if_neg h, fun _ => rfl⟩, fun d v H' M' _ _ r q => (by
      subst q
      exact r.bl_inv), fun _ _ _ _ _ _ z => z.elim⟩
  refine codeAny_mono ((F _ inT (nsT hns)).runs callerA [] s₁ T ⟨[.ref a], []⟩ [.ref a] [.ref a] _ _ hr e0 (hbind s₁ (.ref a)) (.cons rfl .nil) low) fun r s' h => ?_
  match r, h with
  | .ok .next, h => exact False.elim h
  | .ok .brk, h => exact False.elim h
  | .ok .cont, h => exact False.elim h
  | .error _, h =>
    obtain ⟨_, _, _, _, _, _, _, _, _, _, _, _, z⟩ := h
    exact z.elim
  | .ok (.ret u), ⟨v, H', os, bare, un, hok', rr, q⟩ =>
    have q' : v = .bl true := q
    subst q'
    obtain rfl : u = Value.bool true := rr
    refine ⟨rfl, OldK.of_keep fun b o e => ?_, os, bare⟩
    by_cases h : b = a
    · subst h
      rw [ha] at e
      cases e
      exact (hok' b _ (un.frzs b _ _ atA)).1
    · exact un.keep b o e (out h) (by intro z; exact absurd (show b ∈ ([] : List Addr) from z) (by simp)) (by simp)
theorem walk3 {l : PySem.W.OpenLaw} {n k : Nat} {q : Program} {loose : List Str} {XP : (Str → Option Value) → Heap → Prop} {YP : World → Heap → Prop} {d : DefRec} {K : Params → PySem.W.Frag}
    (hn : l.most = some n) (hn2 : n ≤ sizeLine) (hdf : d.params.defaults = []) (hr : RoomG k callerA) (hY : ∀ (w : World) (h : Heap), YP w h → (K w.params).In h) (hN : ∀ w : World, noList (K w.params) = true)
    (F : ∀ (w : World) (mg : Str → Option Value) (fa : Addr) (h : Heap), (K w.params).In h → h.Ns mainGlobals mg → mg d.name = some (.ref fa) →
      ∃ fd : FuncData, (∀ (s : Shared) (u : Value), BindsTo s fd ⟨[u], []⟩ [("script", u)]) ∧
        ∀ base : Heap, (K w.params).In base → base.Ns mainGlobals mg → Fn3 l.prog w (K w.params) mg base k fa fd ["script"] (spLaw3 n)) :
    PySem.W.WalkO q loose XP YP l.row.toRowW d [] (fun f vs => PySem.call f vs) :=
  Att.attach_call hn hdf fun w s₀ s₁ mg mb fa o pm cd doc a vs ns G Y ho hd hcd hmg hobj hints hlen hgn => by
    obtain ⟨fd, hb, hF⟩ := F w mg fa _ (hY w _ Y) G.T.g hmg
    exact top_run (hY w _ Y) G.T.g G.T.b G.T.builtins G.T.nolimit hgn (hN w) hobj hints hlen hn2 hr hF hb
end L3

namespace L3
open PySem PySem.Spec PyProof.Rows L2
theorem szLt {n : Nat} (h : n ≤ 1000000) : n < sizeLine := Nat.lt_of_le_of_lt h (by decide)
theorem szLe {n : Nat} (h : n ≤ 1000000) : n ≤ sizeLine := Nat.le_of_lt (szLt h)
/-! ### comprehensions by a function -/
theorem lcMap {ds : List D} {keep : MH → Prop} {i : Nat} {te : E3} {env : En} {p : Addr} {M : MH} {Q : MH → Prop} (f : D → D) (hp : M p = none) (hk : ∀ M', Sub M M' → keep M')
    (he : ∀ (k : Nat) (d : D) (M' : MH) (R : Q3), ds[k]? = some d → Sub M M' → (∀ M'', Sub M' M'' → R (f d) M'') → te W0 (env.set i (some d)) M' R) (hsz : ds.length < sizeLine)
    (hq : ∀ M', Sub M M' → M' p = some (.lst (ds.map f)) → Q M') : LoopC ds keep i t3Yes te env p M Q := by
  refine ⟨fun k acc M' => acc = (ds.take k).map f ∧ Sub M M', ⟨by simp, (Sub.refl M).new hp⟩, ?_, ?_⟩
  · rintro k d acc M' hd ⟨rfl, sub⟩ hpM
    refine ⟨hk M' sub, Br.tt (he k d M' _ hd sub fun M'' s2 => ⟨(ds.take k).map f, s2 p _ hpM, ?_, ?_, (sub.trans s2).new hp⟩)⟩
    · rw [List.length_map, List.length_take]
      exact Nat.lt_of_le_of_lt (Nat.min_le_right _ _) hsz
    · rw [List.take_add_one, hd, List.map_append]
      rfl
  · rintro acc M' ⟨rfl, sub⟩ hpM
    rw [List.take_length] at hpM
    exact ⟨hk M' sub, hq M' sub hpM⟩
theorem lcFilter {ds : List D} {keep : MH → Prop} {i : Nat} {tt : T3} {te : E3} {env : En} {p : Addr} {M : MH} {Q : MH → Prop} (b : D → Bool) (f : D → D) (hp : M p = none) (hk : ∀ M', Sub M M' → keep M')
    (ht : ∀ (k : Nat) (d : D) (M' : MH) (R : Bool → MH → Prop), ds[k]? = some d → Sub M M' → (∀ M'', Sub M' M'' → R (b d) M'') → tt W0 (env.set i (some d)) M' R)
    (he : ∀ (k : Nat) (d : D) (M' : MH) (R : Q3), ds[k]? = some d → b d = true → Sub M M' → (∀ M'', Sub M' M'' → R (f d) M'') → te W0 (env.set i (some d)) M' R) (hsz : ds.length < sizeLine)
    (hq : ∀ M', Sub M M' → M' p = some (.lst ((ds.filter b).map f)) → Q M') : LoopC ds keep i tt te env p M Q := by
  refine ⟨fun k acc M' => acc = ((ds.take k).filter b).map f ∧ Sub M M', ⟨by simp, (Sub.refl M).new hp⟩, ?_, ?_⟩
  · rintro k d acc M' hd ⟨rfl, sub⟩ hpM
    have e : ((ds.take (k + 1)).filter b).map f = ((ds.take k).filter b).map f ++ (if b d = true then [f d] else []) := by
      rw [List.take_add_one, hd]
      simp only [Option.toList_some, List.filter_append, List.map_append, List.filter_cons, List.filter_nil]
      split <;> rfl
    refine ⟨hk M' sub, ht k d M' _ hd sub fun M3 s3 => ⟨fun hb => he k d M3 _ hd hb (sub.trans s3) fun M'' s2 => ⟨_, s2 p _ (s3 p _ hpM), ?_, ?_, ((sub.trans s3).trans s2).new hp⟩, fun hb => ⟨_, s3 p _ hpM, ?_, sub.trans s3⟩⟩⟩
    · rw [List.length_map]
      have h1 := List.length_filter_le b (ds.take k)
      rw [List.length_take] at h1
      exact Nat.lt_of_le_of_lt (Nat.le_trans h1 (Nat.min_le_right _ _)) hsz
    · rw [e, if_pos hb]
    · rw [e, if_neg (by rw [hb]; decide), List.append_nil]
  · rintro acc M' ⟨rfl, sub⟩ hpM
    rw [List.take_length] at hpM
    exact ⟨hk M' sub, hq M' sub hpM⟩
theorem get_ints {xs : List Int} {i : Nat} {d : D} (h : (xs.map D.int)[i]? = some d) : ∃ x, xs[i]? = some x ∧ d = .int x := by
  rw [List.getElem?_map] at h
  cases e : xs[i]? with
  | none => rw [e] at h; cases h
  | some x => rw [e] at h; exact ⟨x, rfl, (Option.some.inj h).symm⟩
theorem at_ints {xs : List Int} {i : Int} (h0 : 0 ≤ i) (h1 : i < xs.length) : ∃ x, x ∈ xs ∧ atI (xs.map D.int) i = some (.int x) ∧ ∃ j : Nat, i = (j : Int) ∧ j < xs.length ∧ xs[j]? = some x := by
  obtain ⟨j, rfl⟩ := Int.eq_ofNat_of_zero_le h0
  have hj : j < xs.length := by omega
  have e : xs[j]? = some xs[j] := List.getElem?_eq_getElem hj
  exact ⟨xs[j], List.getElem_mem hj, atI_nat (by rw [List.getElem?_map, e]; rfl), j, rfl, hj, e⟩
theorem lstM_sub {M M' : MH} {a : Addr} {ds : List D} (s : Sub M M') (h : LstM M a ds) : LstM M' a ds := h.elim (fun e => .inl (s _ _ e)) fun e => .inr (s _ _ e)
/-! ### the laws' draws -/
def tDraws : S3 :=
    (s3Seq (s3Asg (e3Lc (i3Seq (e3Var 0)) 5 t3Yes (e3CB c3Abs (a3Cons (e3CB c3Int (a3Cons (e3Var 5) a3Nil)) a3Nil)) [5]) 2)
    (s3Seq (s3Asg (e3Lst a3Nil) 3)
    (s3Seq (s3For (i3Rng1 (a3Cons (e3Var 1) a3Nil)) (g3Name 4) (s3Seq (s3Asg (e3Var 4) 5)
    (s3Seq (s3If (t3Test (e3Op r3Gt (e3CB c3Len (a3Cons (e3Var 0) a3Nil)) (e3C (.int 0)))) (s3Seq (s3Asg (e3Op r3Mod (e3Var 4) (e3CB c3Len (a3Cons (e3Var 0) a3Nil))) 7)
    (s3Seq (s3Asg (e3CB c3Int (a3Cons (e3Op r3Ix (e3Var 0) (e3Var 7)) a3Nil)) 5)
    (s3If (t3And (t3Test (e3Op r3Ge (e3Var 5) (e3Op r3Pow (e3C (.int 10)) (e3C (.int 18))))) (t3Test (e3Op r3Gt (e3Op r3Ix (e3Var 2) (e3Var 7)) (e3C (.int 0))))) (s3Seq (s3Expr (e3Bm m3App (e3Var 3) (a3Cons (e3Op r3Mod (e3CB c3Int (a3Cons (e3Op r3Ix (e3Var 2) (e3Var 7)) a3Nil)) (e3C (.int 1000003))) a3Nil)))
    (s3Seq (s3AsgG (e3Op r3Div (e3CB c3Int (a3Cons (e3Op r3Ix (e3Var 2) (e3Var 7)) a3Nil)) (e3C (.int 1000003))) (g3SubL (e3Var 2) (e3Var 7)))
    s3Cont)) s3Nil))) s3Nil)
    (s3Seq (s3Asg (e3Op r3Mod (e3CB c3Int (a3Cons (e3Op r3Add (e3Op r3Add (e3Op r3Mul (e3Var 5) (e3C (.int 48271))) (e3Op r3Mul (e3Var 4) (e3C (.int 69621)))) (e3C (.int 11))) a3Nil)) (e3C (.int 2147483647))) 6)
    (s3Seq (s3Asg (e3Op r3Mod (e3CB c3Int (a3Cons (e3Op r3Add (e3Op r3Div (e3Op r3Mul (e3Var 6) (e3Var 6)) (e3C (.int 4096))) (e3Var 6)) a3Nil)) (e3C (.int 2147483629))) 6)
    (s3Expr (e3Bm m3App (e3Var 3) (a3Cons (e3Op r3Mod (e3CB c3Int (a3Cons (e3Op r3Add (e3Op r3Div (e3Op r3Mul (e3Var 6) (e3Var 6)) (e3C (.int 4096))) (e3Op r3Mul (e3Var 4) (e3C (.int 7919)))) a3Nil)) (e3C (.int 2147483629))) a3Nil))))))))
    (s3Ret (e3Var 3)))))
abbrev NDraws : List Str := ["script", "many", "rests", "draws", "k", "cell", "mixed", "at"]
def spDraws : Sp3 := fun ds M Q _ => ∃ (a : Addr) (n : Int) (ns : List Int), ds = [.ref a, .int n] ∧ 0 ≤ n ∧ n ≤ 100000 ∧ ns.length ≤ 1000 ∧ M a = some (.ro (ns.map D.int)) ∧
  ∀ (p : Addr) (xs : List Int), M p = none → (xs.length : Int) = n → (∀ x ∈ xs, (0 : Int) ≤ x ∧ x < 2147483629) → Q (.ref p) (updM M p (.lst (xs.map D.int)))
theorem mem_set {xs : List Int} {j : Nat} {y x : Int} (h : x ∈ xs.set j y) : x ∈ xs ∨ x = y := by
  rcases List.mem_or_eq_of_mem_set h with h | h
  · exact .inl h
  · exact .inr h
theorem rdDraws : Rd3 NDraws tDraws spDraws := by
  rintro ds M Q E ⟨a, n, ns, rfl, n0, n1, hl, ha, q⟩
  -- rests = [abs(int(cell)) for cell in script]
  refine ⟨_, .inr ha, fun r nr => lcMap (fun d => match d with | .int i => .int (if i < 0 then -i else i) | d => d) nr (fun M' s => .inr (s a _ ha)) (fun k d M' R hd s k2 => ?_) (szLt (by rw [List.length_map]; omega)) fun M1 s1 h1 => ?_⟩
  · obtain ⟨x, _, rfl⟩ := get_ints hd
    exact k2 M' (Sub.refl _)
  have e1 : (ns.map D.int).map (fun d => match d with | .int i => .int (if i < 0 then -i else i) | d => d) = (ns.map fun i => if i < 0 then -i else i).map D.int := by
    rw [List.map_map, List.map_map]; rfl
  rw [e1] at h1
  -- draws = []
  refine ⟨szLe (by simp), fun w nw => ?_⟩
  have nwM : M w = none := s1.free nw
  have nrw : r ≠ w := neM h1 nw
  -- for k in range(many)
  refine ⟨by omega, by omega, fun i env' M' => ∃ (s4 s5 s6 s7 : Option D) (rs xs : List Int), env' = [some (.ref a), some (.int n), some (.ref r), some (.ref w), s4, s5, s6, s7] ∧ Sub M M' ∧ M' r = some (.lst (rs.map D.int)) ∧ M' w = some (.lst (xs.map D.int)) ∧
    rs.length = ns.length ∧ (∀ x ∈ rs, (0 : Int) ≤ x) ∧ xs.length = i ∧ ∀ x ∈ xs, (0 : Int) ≤ x ∧ x < 2147483629, ?_, ?_, ?_⟩
  · refine ⟨none, none, none, none, _, [], rfl, s1.new nwM, (updM_ne nrw).trans h1, updM_same, by simp, ?_, rfl, by simp⟩
    intro x hx
    obtain ⟨y, _, rfl⟩ := List.mem_map.mp hx
    show 0 ≤ if y < 0 then -y else y
    split <;> omega
  · rintro i d env' M' hd ⟨s4, s5, s6, s7, rs, xs, rfl, sub, hr, hw, lr, pr, lx, px⟩
    obtain ⟨hi, rfl⟩ := rngD_get hd
    have hi' : (i : Int) < n := by omega
    refine ⟨trivial, ?_⟩
    have ha' : M' a = some (.ro (ns.map D.int)) := sub a _ ha
    -- the last rows
    have tail : ∀ (s5' s7' : Option D) (c : Int), s5' = some (.int c) →
        (s3Seq (s3Asg (e3Op r3Mod (e3CB c3Int (a3Cons (e3Op r3Add (e3Op r3Add (e3Op r3Mul (e3Var 5) (e3C (.int 48271))) (e3Op r3Mul (e3Var 4) (e3C (.int 69621)))) (e3C (.int 11))) a3Nil)) (e3C (.int 2147483647))) 6)
    (s3Seq (s3Asg (e3Op r3Mod (e3CB c3Int (a3Cons (e3Op r3Add (e3Op r3Div (e3Op r3Mul (e3Var 6) (e3Var 6)) (e3C (.int 4096))) (e3Var 6)) a3Nil)) (e3C (.int 2147483629))) 6)
    (s3Expr (e3Bm m3App (e3Var 3) (a3Cons (e3Op r3Mod (e3CB c3Int (a3Cons (e3Op r3Add (e3Op r3Div (e3Op r3Mul (e3Var 6) (e3Var 6)) (e3C (.int 4096))) (e3Op r3Mul (e3Var 4) (e3C (.int 7919)))) a3Nil)) (e3C (.int 2147483629))) a3Nil)))))
          (rtX E) { nx := fun env' M' => ∃ (s4 s5 s6 s7 : Option D) (rs xs : List Int), env' = [some (.ref a), some (.int n), some (.ref r), some (.ref w), s4, s5, s6, s7] ∧ Sub M M' ∧ M' r = some (.lst (rs.map D.int)) ∧ M' w = some (.lst (xs.map D.int)) ∧
    rs.length = ns.length ∧ (∀ x ∈ rs, (0 : Int) ≤ x) ∧ xs.length = i + 1 ∧ ∀ x ∈ xs, (0 : Int) ≤ x ∧ x < 2147483629, rt := (rtD Q).rt } [some (.ref a), some (.int n), some (.ref r), some (.ref w), some (.int (0 + (i : Nat))), s5', s6, s7'] M' := by
      rintro s5' s7' c rfl
      refine ⟨.inr ⟨by decide, by decide⟩, .inr ⟨by decide, by decide⟩, by decide, ?_⟩
      generalize hm : (c * 48271 + (0 + ((i : Nat) : Int)) * 69621 + 11) % 2147483647 = m1
      have m0 : 0 ≤ m1 := by rw [← hm]; exact Int.emod_nonneg _ (by decide)
      have m1' : m1 < 2147483647 := by rw [← hm]; exact Int.emod_lt_of_pos _ (by decide)
      refine ⟨.inl ⟨by omega, by omega⟩, ⟨by decide, by decide⟩, by decide, ?_⟩
      generalize hm2 : (m1 * m1 / 4096 + m1) % 2147483629 = m2
      have m20 : 0 ≤ m2 := by rw [← hm2]; exact Int.emod_nonneg _ (by decide)
      have m21 : m2 < 2147483629 := by rw [← hm2]; exact Int.emod_lt_of_pos _ (by decide)
      refine ⟨⟨_, .inl hw⟩, .inl ⟨by omega, by omega⟩, ⟨by decide, by decide⟩, .inr ⟨by decide, by decide⟩, by decide, _, hw, szLt (by rw [List.length_map]; omega), ?_⟩
      refine ⟨_, _, _, _, rs, xs ++ [_], rfl, sub.new nwM, (updM_ne nrw).trans hr, by rw [updM_same, List.map_append]; rfl, lr, pr, by simp [lx], ?_⟩
      intro x hx
      rcases List.mem_append.mp hx with hx | hx
      · exact px x hx
      · rw [List.mem_singleton] at hx
        rw [hx]
        exact ⟨Int.emod_nonneg _ (by decide), Int.emod_lt_of_pos _ (by decide)⟩
    refine ⟨_, .inr ha', fun e => ?_, fun e => ?_⟩
    · -- there are cells
      have hpos : 0 < ns.length := by
        have := of_decide_eq_true e
        rw [List.length_map] at this
        omega
      refine ⟨_, .inr ha', by rw [List.length_map]; omega, ?_⟩
      rw [List.length_map]
      have ht0 : 0 ≤ (0 + ((i : Nat) : Int)) % (ns.length : Int) := Int.emod_nonneg _ (by omega)
      have ht1 : (0 + ((i : Nat) : Int)) % (ns.length : Int) < ns.length := Int.emod_lt_of_pos _ (by omega)
      generalize (0 + ((i : Nat) : Int)) % (ns.length : Int) = at_ at ht0 ht1 ⊢
      obtain ⟨c, _, hc, _⟩ := at_ints ht0 ht1
      obtain ⟨y, hy, hyr, j, hj, hjl, hjr⟩ := at_ints (xs := rs) ht0 (by omega)
      refine ⟨_, _, .inr ha', hc, ⟨by decide, by decide, by decide⟩, fun e2 => ?_, fun e2 => ?_⟩
      · refine ⟨_, _, .inl hr, hyr, fun e3 => ?_, fun e3 => ?_⟩
        · refine ⟨⟨_, .inl hw⟩, _, _, .inl hr, hyr, by decide, _, hw, szLt (by rw [List.length_map]; omega), ?_⟩
          have hr2 : updM M' w (.lst (xs.map D.int ++ [.int (y % 1000003)])) r = some (.lst (rs.map D.int)) := (updM_ne nrw).trans hr
          refine ⟨_, _, .inl hr2, hyr, ⟨by decide, by decide⟩, _, j, hr2, ?_, ?_⟩
          · rw [List.length_map, hj]
            unfold ixN
            rw [if_pos (by omega), if_pos (by omega)]
            simp
          · refine ⟨_, _, _, _, rs.set j (y / 1000003), xs ++ [y % 1000003], rfl, (sub.new nwM).new nr, ?_, ?_, by simp [lr], ?_, by simp [lx], ?_⟩
            · rw [updM_same, List.map_set]
            · rw [updM_ne nrw.symm, updM_same, List.map_append]
              rfl
            · intro x hx
              rcases mem_set hx with hx | rfl
              · exact pr x hx
              · exact Int.ediv_nonneg (pr y hy) (by decide)
            · intro x hx
              rcases List.mem_append.mp hx with hx | hx
              · exact px x hx
              · rw [List.mem_singleton] at hx
                rw [hx]
                exact ⟨Int.emod_nonneg _ (by decide), Int.lt_trans (Int.emod_lt_of_pos _ (by decide)) (by decide)⟩
        · exact tail _ _ _ rfl
      · exact Br.ff (tail _ _ _ rfl)
    · exact tail _ _ _ rfl
  · rintro env' M' ⟨s4, s5, s6, s7, rs, xs, rfl, sub, hr, hw, lr, pr, lx, px⟩
    refine ⟨trivial, updM M w (.lst (xs.map D.int)), ?_, q w xs nwM ?_ px⟩
    · intro b o e
      by_cases hb : b = w
      · subst hb
        rw [updM_same] at e
        cases e
        exact hw
      · rw [updM_ne hb] at e
        exact sub b o e
    · rw [lx, rngD_length]
      omega
/-! ### the laws' take -/
def tTake : S3 :=
    (s3Seq (s3Asg (e3Op r3Ix (e3Var 0) (e3C (.int 1))) 2)
    (s3Seq (s3AsgG (e3Op r3Add (e3Var 2) (e3C (.int 1))) (g3SubL (e3Var 0) (e3C (.int 1))))
    (s3Seq (s3Asg (e3Op r3Ix (e3Var 0) (e3C (.int 0))) 3)
    (s3Seq (s3If (t3Test (e3Op r3Ge (e3Var 2) (e3CB c3Len (a3Cons (e3Var 3) a3Nil)))) (s3Ret (e3C (.int 0))) s3Nil)
    (s3Ret (e3Op r3Mod (e3Op r3Div (e3CB c3Int (a3Cons (e3Op r3Ix (e3Var 3) (e3Var 2)) a3Nil)) (e3C (.int 7))) (e3Var 1)))))))
abbrev NTake : List Str := ["hand", "many", "at", "draws"]
/-- the hand: the draws, how many are taken -/
def Hand (M : MH) (h : Addr) : Prop := ∃ (d : Addr) (n : Int) (xs : List Int), M h = some (.lst [.ref d, .int n]) ∧ M d = some (.lst (xs.map D.int)) ∧ d ≠ h ∧ 0 ≤ n ∧ ∀ x ∈ xs, (0 : Int) ≤ x
/-- all but the hand -/
def But (h : Addr) (M M' : MH) : Prop := ∀ b, b ≠ h → M' b = M b
def spTake : Sp3 := fun ds M Q _ => ∃ (h : Addr) (m : Int), ds = [.ref h, .int m] ∧ Hand M h ∧ 0 < m ∧ ∀ v M', 0 ≤ v → v < m → Hand M' h → But h M M' → Q (.int v) M'
theorem rdTake : Rd3 NTake tTake spTake := by
  rintro ds M Q E ⟨h, m, rfl, ⟨d, n, xs, hh, hd, hne, h0, hx⟩, hm, q⟩
  refine ⟨_, .int n, .inl hh, rfl, _, 1, hh, rfl, _, .ref d, .inl updM_same, rfl, ?_⟩
  have hd' : (updM M h (.lst [.ref d, .int (n + 1)])) d = some (.lst (xs.map D.int)) := (updM_ne hne).trans hd
  have fin : ∀ v, 0 ≤ v → v < m → (rtD Q).rt (.int v) (updM M h (.lst [.ref d, .int (n + 1)])) := fun v v0 v1 =>
    ⟨_, Sub.refl _, q v _ v0 v1 ⟨d, n + 1, xs, updM_same, hd', hne, by omega, hx⟩ fun b hb => updM_ne hb⟩
  refine ⟨_, .inl hd', fun e => ?_, fun e => ?_⟩
  · exact fin 0 (Int.le_refl _) hm
  · have e' := of_decide_eq_false e
    rw [List.length_map] at e'
    obtain ⟨x, hxm, hat, _⟩ := at_ints (xs := xs) h0 (by omega)
    exact ⟨_, _, .inl hd', hat, ⟨by decide, by decide⟩, hm, fin _ (Int.emod_nonneg _ (by omega)) (Int.emod_lt_of_pos _ hm)⟩
theorem hand_ne {M : MH} {h p : Addr} (hH : Hand M h) (np : M p = none) : h ≠ p := by
  obtain ⟨d, n, xs, h1, _⟩ := hH
  exact neM h1 np
/-- the hand stays where other things are made -/
theorem Hand.new {M : MH} {h p : Addr} {o : MO} (hH : Hand M h) (np : M p = none) : Hand (updM M p o) h := by
  obtain ⟨d, n, xs, h1, h2, h3⟩ := hH
  exact ⟨d, n, xs, (updM_ne (neM h1 np)).trans h1, (updM_ne (neM h2 np)).trans h2, h3⟩
theorem Hand.sub {M M' : MH} {h : Addr} (hH : Hand M h) (s : Sub M M') : Hand M' h := by
  obtain ⟨d, n, xs, h1, h2, h3⟩ := hH
  exact ⟨d, n, xs, s _ _ h1, s _ _ h2, h3⟩
end L3

namespace L3
open PySem PySem.Spec PyProof.Rows L2
/-! ### lists and rows of ints as data -/
theorem pys_ints {M : MH} : ∀ xs : List Int, Pys M (xs.map D.int) (xs.map PyData.int)
  | [] => .nil
  | x :: xs => .cons (.int x) (pys_ints xs)
theorem lay_ints : ∀ xs : List Int, PyData.canLayAll0 (xs.map PyData.int) = true
  | [] => by simp [PyData.canLayAll0]
  | x :: xs => by simp [PyData.canLayAll0, PyData.canLay0, lay_ints xs]
theorem depth_ints : ∀ xs : List Int, PyData.depthAll (xs.map PyData.int) ≤ 1
  | [] => by simp [PyData.depthAll]
  | x :: xs => by
    have := depth_ints xs
    simp only [List.map_cons, PyData.depthAll, PyData.depth]
    omega
theorem eqv_ints : ∀ xs ys : List Int, PyData.eqvAll (xs.map PyData.int) (ys.map PyData.int) = decide (xs = ys)
  | [], [] => by simp [PyData.eqvAll]
  | [], y :: ys => by simp [PyData.eqvAll]
  | x :: xs, [] => by simp [PyData.eqvAll]
  | x :: xs, y :: ys => by
    simp only [List.map_cons, PyData.eqvAll, PyData.eqv, eqv_ints xs ys]
    by_cases h : x = y
    · subst h; simp
    · simp [h]
theorem shaped_of {d : PyData} (h1 : d.canLay0 = true) (h2 : d.depth ≤ 64) : SeqAt.shaped d = true := by
  show (d.canLay0 && decide (d.depth ≤ 64)) = true
  rw [h1, decide_eq_true h2]
  rfl
theorem shaped_ints (xs : List Int) : SeqAt.shaped (.list (xs.map PyData.int)) = true :=
  shaped_of (by simp only [PyData.canLay0]; exact lay_ints xs) (by have := depth_ints xs; simp only [PyData.depth]; omega)
theorem shaped_row (xs : List Int) : SeqAt.shaped (.tuple (xs.map PyData.int)) = true :=
  shaped_of (by simp only [PyData.canLay0]; exact lay_ints xs) (by have := depth_ints xs; simp only [PyData.depth]; omega)
/-- a row of ints -/
def rowD (r : List Int) : D := .tup (r.map D.int)
def rowP (r : List Int) : PyData := .tuple (r.map PyData.int)
theorem pys_rows {M : MH} : ∀ rs : List (List Int), Pys M (rs.map rowD) (rs.map rowP)
  | [] => .nil
  | r :: rs => .cons (.tup (pys_ints r)) (pys_rows rs)
theorem lay_rows : ∀ rs : List (List Int), PyData.canLayAll0 (rs.map rowP) = true
  | [] => by simp [PyData.canLayAll0]
  | r :: rs => by simp [PyData.canLayAll0, PyData.canLay0, rowP, lay_ints r]; exact lay_rows rs
theorem depth_rows : ∀ rs : List (List Int), PyData.depthAll (rs.map rowP) ≤ 2
  | [] => by simp [PyData.depthAll]
  | r :: rs => by
    have h1 := depth_rows rs
    have h2 := depth_ints r
    simp only [List.map_cons, PyData.depthAll, rowP, PyData.depth]
    omega
theorem shaped_rowsL (rs : List (List Int)) : SeqAt.shaped (.list (rs.map rowP)) = true :=
  shaped_of (by simp only [PyData.canLay0]; exact lay_rows rs) (by have := depth_rows rs; simp only [PyData.depth]; omega)
theorem shaped_rowsT (rs : List (List Int)) : SeqAt.shaped (.tuple (rs.map rowP)) = true :=
  shaped_of (by simp only [PyData.canLay0]; exact lay_rows rs) (by have := depth_rows rs; simp only [PyData.depth]; omega)
theorem eqv_row (r s : List Int) : PyData.eqv (rowP r) (rowP s) = decide (r = s) := by
  unfold rowP
  simp only [PyData.eqv]
  exact eqv_ints r s
theorem any_rows (r : List Int) : ∀ rs : List (List Int), ((rs.map rowP).any fun z => PyData.eqv z (rowP r)) = decide (r ∈ rs)
  | [] => by simp
  | s :: rs => by
    rw [List.map_cons, List.any_cons, eqv_row, any_rows r rs]
    by_cases h : s = r
    · subst h; simp
    · have h' : ¬ r = s := fun z => h z.symm
      simp [h, h']
/-- row in rows -/
theorem in_rows {neg : Bool} {M : MH} {Q : Q3} {e : D} {r : List Int} {rs : List (List Int)} (h : Seq3 M (rs.map rowD) e) (q : Q (.bl (neg ^^ decide (r ∈ rs))) M) : r3In neg (rowD r) e M Q := by
  unfold r3In
  exact ⟨rowP r, rs.map rowD, rs.map rowP, .tup (pys_ints r), h, pys_rows rs, shaped_row r, shaped_rowsL rs, shaped_rowsT rs, by rw [any_rows]; exact q⟩
theorem any_ints (x : Int) : ∀ xs : List Int, ((xs.map PyData.int).any fun z => PyData.eqv z (.int x)) = decide (x ∈ xs)
  | [] => by simp
  | y :: xs => by
    rw [List.map_cons, List.any_cons, any_ints x xs]
    simp only [PyData.eqv]
    by_cases h : y = x
    · subst h; simp
    · have h' : ¬ x = y := fun z => h z.symm
      simp [h, h']
theorem in_ints {neg : Bool} {M : MH} {Q : Q3} {e : D} {x : Int} {xs : List Int} (h : Seq3 M (xs.map D.int) e) (q : Q (.bl (neg ^^ decide (x ∈ xs))) M) : r3In neg (.int x) e M Q := by
  unfold r3In
  exact ⟨.int x, xs.map D.int, xs.map PyData.int, .int x, h, pys_ints xs, shaped_of (by simp [PyData.canLay0]) (by simp [PyData.depth]), shaped_ints xs, shaped_row xs, by rw [any_ints]; exact q⟩
/-- lists of ints compared -/
theorem eq_lists {M : MH} {Q : Q3} {a b : Addr} {xs ys : List Int} (ha : LstM M a (xs.map D.int)) (hb : LstM M b (ys.map D.int)) (q : Q (.bl (decide (xs = ys))) M) : r3Eq (.ref a) (.ref b) M Q := by
  unfold r3Eq
  exact ⟨_, _, .ref ha (pys_ints xs), .ref hb (pys_ints ys), shaped_ints xs, shaped_ints ys, by simp only [PyData.eqv]; rw [eqv_ints]; exact q⟩
theorem ne_lists {M : MH} {Q : Q3} {a b : Addr} {xs ys : List Int} (ha : LstM M a (xs.map D.int)) (hb : LstM M b (ys.map D.int)) (q : Q (.bl (!decide (xs = ys))) M) : r3Ne (.ref a) (.ref b) M Q := by
  unfold r3Ne
  exact ⟨_, _, .ref ha (pys_ints xs), .ref hb (pys_ints ys), shaped_ints xs, shaped_ints ys, by simp only [PyData.eqv]; rw [eqv_ints]; exact q⟩
/-! ### numbers -/
/-- is_number -/
def isNum (d : D) (lo hi : Int) : Bool := match d with | .int i => decide (lo ≤ i) && decide (i ≤ hi) | _ => false
/-- a value by itself -/
def Own : D → Prop
  | .ref _ | .ty _ => False
  | _ => True
def tyName : D → String
  | .non => "NoneType" | .bl _ => "bool" | .int _ => "int" | .str _ => "str" | .tup _ => "tuple" | _ => ""
theorem ty_own {M : MH} {d : D} (h : Own d) : tyD M d (tyName d) := by
  cases d <;> first | rfl | exact h.elim
def tIsNumber : S3 :=
    (s3Ret (e3And (e3CB c3Isi (a3Cons (e3Var 0) (a3Cons (e3C (.ty "int")) a3Nil))) (e3And (e3Not (e3CB c3Isi (a3Cons (e3Var 0) (a3Cons (e3C (.ty "bool")) a3Nil)))) (e3Chain r3Le r3Le (e3Var 1) (e3Var 0) (e3Var 2)))))
/-- the type of a value: list or dict by what is known -/
def TyKnown (M : MH) (d : D) : Prop := ∃ n, tyD M d n ∧ (n = tyName d ∨ n = "list" ∨ n = "dict") ∧ ((∃ a, d = .ref a) ∨ n = tyName d)
theorem own_known {M : MH} {d : D} (h : Own d) : TyKnown M d := ⟨tyName d, ty_own h, .inl rfl, .inr rfl⟩
theorem lst_known {M : MH} {a : Addr} {ds : List D} (h : LstM M a ds) : TyKnown M (.ref a) := ⟨"list", .inl ⟨rfl, ds, h⟩, .inr (.inl rfl), .inl ⟨a, rfl⟩⟩
def spIsNumber : Sp3 := fun ds M Q _ => ∃ (d : D) (lo hi : Int), ds = [d, .int lo, .int hi] ∧ TyKnown M d ∧ Q (.bl (isNum d lo hi)) M
theorem isi_int {M : MH} {Q : Q3} {d : D} (h : TyKnown M d) (q1 : ∀ i, d = .int i → Q (.bl true) M) (q2 : ∀ b, d = .bl b → Q (.bl true) M) (q3 : (∀ i, d ≠ .int i) → (∀ b, d ≠ .bl b) → Q (.bl false) M) : c3Isi [d, .ty "int"] M Q := by
  obtain ⟨n, hn, _, h3⟩ := h
  unfold c3Isi
  cases d with
  | int i => exact ⟨"int", true, rfl, by decide +kernel, q1 i rfl⟩
  | bl b => exact ⟨"bool", true, rfl, by decide +kernel, q2 b rfl⟩
  | non => exact ⟨_, false, rfl, by decide +kernel, q3 (by intro i z; cases z) (by intro i z; cases z)⟩
  | str x => exact ⟨_, false, rfl, by decide +kernel, q3 (by intro i z; cases z) (by intro i z; cases z)⟩
  | tup x => exact ⟨_, false, rfl, by decide +kernel, q3 (by intro i z; cases z) (by intro i z; cases z)⟩
  | ref a =>
    rcases hn with ⟨rfl, h⟩ | ⟨rfl, h⟩
    · exact ⟨"list", false, .inl ⟨rfl, h⟩, by decide +kernel, q3 (by intro i z; cases z) (by intro i z; cases z)⟩
    · exact ⟨"dict", false, .inr ⟨rfl, h⟩, by decide +kernel, q3 (by intro i z; cases z) (by intro i z; cases z)⟩
  | ty x => exact hn.elim
theorem isi_bool {M : MH} {Q : Q3} {d : D} (h : TyKnown M d) (q2 : ∀ b, d = .bl b → Q (.bl true) M) (q3 : (∀ b, d ≠ .bl b) → Q (.bl false) M) : c3Isi [d, .ty "bool"] M Q := by
  obtain ⟨n, hn, _, h3⟩ := h
  unfold c3Isi
  cases d with
  | int i => exact ⟨"int", false, rfl, by decide +kernel, q3 (by intro i z; cases z)⟩
  | bl b => exact ⟨"bool", true, rfl, by decide +kernel, q2 b rfl⟩
  | non => exact ⟨_, false, rfl, by decide +kernel, q3 (by intro i z; cases z)⟩
  | str x => exact ⟨_, false, rfl, by decide +kernel, q3 (by intro i z; cases z)⟩
  | tup x => exact ⟨_, false, rfl, by decide +kernel, q3 (by intro i z; cases z)⟩
  | ref a =>
    rcases hn with ⟨rfl, h⟩ | ⟨rfl, h⟩
    · exact ⟨"list", false, .inl ⟨rfl, h⟩, by decide +kernel, q3 (by intro i z; cases z)⟩
    · exact ⟨"dict", false, .inr ⟨rfl, h⟩, by decide +kernel, q3 (by intro i z; cases z)⟩
  | ty x => exact hn.elim
theorem isi_tuple {M : MH} {Q : Q3} {d : D} (h : TyKnown M d) (q2 : ∀ b, d = .tup b → Q (.bl true) M) (q3 : (∀ b, d ≠ .tup b) → Q (.bl false) M) : c3Isi [d, .ty "tuple"] M Q := by
  obtain ⟨n, hn, _, h3⟩ := h
  unfold c3Isi
  cases d with
  | int i => exact ⟨"int", false, rfl, by decide +kernel, q3 (by intro i z; cases z)⟩
  | tup b => exact ⟨"tuple", true, rfl, by decide +kernel, q2 b rfl⟩
  | non => exact ⟨_, false, rfl, by decide +kernel, q3 (by intro i z; cases z)⟩
  | str x => exact ⟨_, false, rfl, by decide +kernel, q3 (by intro i z; cases z)⟩
  | bl x => exact ⟨_, false, rfl, by decide +kernel, q3 (by intro i z; cases z)⟩
  | ref a =>
    rcases hn with ⟨rfl, h⟩ | ⟨rfl, h⟩
    · exact ⟨"list", false, .inl ⟨rfl, h⟩, by decide +kernel, q3 (by intro i z; cases z)⟩
    · exact ⟨"dict", false, .inr ⟨rfl, h⟩, by decide +kernel, q3 (by intro i z; cases z)⟩
  | ty x => exact hn.elim
theorem isi_str {M : MH} {Q : Q3} {d : D} (h : TyKnown M d) (q2 : ∀ b, d = .str b → Q (.bl true) M) (q3 : (∀ b, d ≠ .str b) → Q (.bl false) M) : c3Isi [d, .ty "str"] M Q := by
  obtain ⟨n, hn, _, h3⟩ := h
  unfold c3Isi
  cases d with
  | int i => exact ⟨"int", false, rfl, by decide +kernel, q3 (by intro i z; cases z)⟩
  | str b => exact ⟨"str", true, rfl, by decide +kernel, q2 b rfl⟩
  | non => exact ⟨_, false, rfl, by decide +kernel, q3 (by intro i z; cases z)⟩
  | tup x => exact ⟨_, false, rfl, by decide +kernel, q3 (by intro i z; cases z)⟩
  | bl x => exact ⟨_, false, rfl, by decide +kernel, q3 (by intro i z; cases z)⟩
  | ref a =>
    rcases hn with ⟨rfl, h⟩ | ⟨rfl, h⟩
    · exact ⟨"list", false, .inl ⟨rfl, h⟩, by decide +kernel, q3 (by intro i z; cases z)⟩
    · exact ⟨"dict", false, .inr ⟨rfl, h⟩, by decide +kernel, q3 (by intro i z; cases z)⟩
  | ty x => exact hn.elim
theorem rdIsNumber : Rd3 ["value", "least", "most"] tIsNumber spIsNumber := by
  rintro ds M Q E ⟨d, lo, hi, rfl, hk, q⟩
  conv => whnf
  refine isi_int hk ?_ ?_ ?_
  · intro i e
    subst e
    refine Br.tt ?_
    conv => whnf
    refine isi_bool hk (fun b e => nomatch e) ?_
    intro _
    refine Br.tt ⟨fun e1 => ?_, fun e1 => ?_⟩
    · refine ⟨M, Sub.refl _, ?_⟩
      have : isNum (.int i) lo hi = decide (i ≤ hi) := by
        show (decide (lo ≤ i) && decide (i ≤ hi)) = _
        rw [e1]; rfl
      rw [this] at q
      exact q
    · refine ⟨M, Sub.refl _, ?_⟩
      have : isNum (.int i) lo hi = false := by
        show (decide (lo ≤ i) && decide (i ≤ hi)) = _
        rw [e1]; rfl
      rw [this] at q
      exact q
  · intro b e
    subst e
    refine Br.tt ?_
    conv => whnf
    refine isi_bool hk ?_ ?_
    · exact fun b' e => Br.ff ⟨M, Sub.refl _, q⟩
    · exact fun h => absurd rfl (h b)
  · intro h1 h2
    refine Br.ff ⟨M, Sub.refl _, ?_⟩
    have : isNum d lo hi = false := by
      cases d with
      | int i => exact absurd rfl (h1 i)
      | _ => rfl
    rw [this] at q
    exact q
def tWhole : S3 :=
    (s3Ret (e3And (e3CB c3Isi (a3Cons (e3Var 0) (a3Cons (e3C (.ty "int")) a3Nil))) (e3Not (e3CB c3Isi (a3Cons (e3Var 0) (a3Cons (e3C (.ty "bool")) a3Nil))))))
def isIntD : D → Bool
  | .int _ => true
  | _ => false
def spWhole : Sp3 := fun ds M Q _ => ∃ d, ds = [d] ∧ TyKnown M d ∧ Q (.bl (isIntD d)) M
theorem rdWhole : Rd3 ["found"] tWhole spWhole := by
  rintro ds M Q E ⟨d, rfl, hk, q⟩
  conv => whnf
  refine isi_int hk ?_ ?_ ?_
  · intro i e
    subst e
    refine Br.tt ?_
    conv => whnf
    refine isi_bool hk (fun b e => nomatch e) ?_
    exact fun _ => ⟨M, Sub.refl _, q⟩
  · intro b e
    subst e
    refine Br.tt ?_
    conv => whnf
    refine isi_bool hk ?_ ?_
    · exact fun b' e => ⟨M, Sub.refl _, q⟩
    · exact fun h => absurd rfl (h b)
  · intro h1 h2
    refine Br.ff ⟨M, Sub.refl _, ?_⟩
    have : isIntD d = false := by
      cases d with
      | int i => exact absurd rfl (h1 i)
      | _ => rfl
    rw [this] at q
    exact q

theorem eq_int {M : MH} {Q : Q3} {i j : Int} (q : Q (.bl (decide (i = j))) M) : r3Eq (.int i) (.int j) M Q := by unfold r3Eq; exact q
theorem ne_int {M : MH} {Q : Q3} {i j : Int} (q : Q (.bl (!decide (i = j))) M) : r3Ne (.int i) (.int j) M Q := by unfold r3Ne; exact q
theorem eq_bl {M : MH} {Q : Q3} {i j : Bool} (q : Q (.bl (i == j)) M) : r3Eq (.bl i) (.bl j) M Q := by unfold r3Eq; exact q
theorem ne_bl {M : MH} {Q : Q3} {i j : Bool} (q : Q (.bl (!(i == j))) M) : r3Ne (.bl i) (.bl j) M Q := by unfold r3Ne; exact q
theorem eq_str {M : MH} {Q : Q3} {i j : Str} (q : Q (.bl (decide (i = j))) M) : r3Eq (.str i) (.str j) M Q := by unfold r3Eq; exact q
theorem ne_str {M : MH} {Q : Q3} {i j : Str} (q : Q (.bl (!decide (i = j))) M) : r3Ne (.str i) (.str j) M Q := by unfold r3Ne; exact q
/-- what is known, with one more object -/
theorem Sub.put {M M' : MH} {p : Addr} {o : MO} (s : Sub M M') (h : M' p = some o) : Sub (updM M p o) M' := fun b u e => by
  by_cases hb : b = p
  · subst hb
    rw [updM_same] at e
    cases e
    exact h
  · rw [updM_ne hb] at e
    exact s b u e
theorem rng_map {f : D → D} {g : Nat → D} {n : Nat} (h : ∀ i : Nat, f (.int (i : Int)) = g i) : (rngD 0 n).map f = (List.range n).map g := by
  unfold rngD
  rw [List.map_map]
  refine List.map_congr_left fun i _ => ?_
  show f (.int (0 + (i : Int))) = g i
  rw [Int.zero_add]
  exact h i
theorem cut_from1 (xs : List D) : cutD xs (some 1) none = xs.drop 1 := by
  unfold cutD
  rw [show HT.sIx xs.length 0 (some 1) = min 1 xs.length from HT.sIx_nat xs.length 0 1, HT.sIx_none]
  cases xs with
  | nil => rfl
  | cons x r =>
    rw [show min 1 (x :: r).length = 1 by rw [List.length_cons]; omega]
    show (List.take ((x :: r).length - 1) r) = r
    rw [List.length_cons, Nat.add_sub_cancel]
    exact List.take_length
end L3

namespace L3
open PySem PySem.Spec PyProof.Rows L2
section
variable {X : Cx} {e a b c o : Expr} {es : List Expr} {pos p : Pos} {t ta tb tc to te : E3} {u : A3} {K : Fg}
/-! ### methods of tuples -/
theorem sqd_at {pins : List (Addr × Obj)} {σ : L2.St} {H : Hp} {s : Shared} {p : Addr} {xs : List V} (I : Inv X pins σ H s) (h : SqD X.K H p xs) : s.TypeIs (.ref p) "tuple" ∧ ∃ ob, s.heap.get? p = some ob ∧ ob.dict = none := by
  obtain ⟨its, _, ht, _⟩ := I.tuple h.1
  refine ⟨ht.typeIs, ?_⟩
  rcases h.2 with ⟨ob, v, e, d⟩ | ⟨ob, e, _, d⟩
  · exact ⟨ob, (I.hok p _ e).1, d⟩
  · exact ⟨ob, I.kIn p ob e, d⟩
def tTM (K : Fg) (r : V → List V → Hp → VK → Prop) (to : TE) (t : TA) : TE := fun σ H Q => to σ H fun x H1 => (∃ p xs, x = .ref p ∧ SqD K H1 p xs) ∧ t σ H1 fun ys H2 => r x ys H2 Q
theorem pe_tmD {name : Str} {id : String} {r : V → List V → Hp → VK → Prop} {to : TE} {t : TA} {apos cpos : Pos} (slot : Slot "tuple" name id) (hty : typeOf (.builtin id) = pure (.type "method_descriptor")) (hm : MtR X id r) (ho : PE X o to) (ha : PA X (e :: es) t)
    (hbase : attributeBase o name X.env (eval o X.env) = eval o X.env)
    (hfew : ((backTo cpos (starEach (e :: es) X.env)).all (fun x => !x.1) && (backToKw cpos (keywordEach [] X.env)).all (fun x => x.1.isSome) && decide ((e :: es).length + ([] : List Keyword).length + (if ([] : List Keyword).isEmpty then 0 else 1) < 30)) = true)
    (hline : (apos.endLine == cpos.line) = true) (hs : starEach (e :: es) X.env = (false, eval e X.env) :: starEach es X.env) (hplain : (backTo cpos (starEach es X.env)).any (·.1) = false) :
    PE X (.Call (.Attribute o name apos) (e :: es) [] cpos) (tTM X.K r to t) := ⟨fun pins s σ H Q I h =>
  wpAny_Call_method_late hbase hfew hline rfl (thn (ho.run pins s σ H _ I h) fun v s1 ⟨x, H1, I1, r1, ⟨p, xs, ex, sq⟩, q1⟩ => by
    subst ex
    cases r1
    obtain ⟨h1, h2⟩ := sqd_at I1 sq
    refine ⟨"tuple", id, PySem.F.plainAttrs_tuple, slot, hty, h1, fun a ea => (by cases ea; exact h2), ?_⟩
    have hA := ha.run cpos pins s1 σ H1 _ I1 q1
    rw [hs] at hA ⊢
    exact Calls.callWith_builtin (by show (false || (backTo cpos (starEach es X.env)).any (·.1)) = false; rw [hplain] <;> rfl) (Calls.evalArgs_plain (thn hA fun us s2 ⟨vs, H2, I2, r2, q2⟩ => hm pins s2 σ H2 (.ref p) vs (.ref p) us Q I2 rfl r2 q2)))⟩
def e3Tm (m : List D → List D → MH → Q3 → Prop) (to : E3) (u : A3) : E3 := fun W env M Q => to W env M fun od M1 => match od with
  | .tup ys => u W env M1 fun xs M2 => m ys xs M2 Q
  | _ => False
def MtT (K : Fg) (r : V → List V → Hp → VK → Prop) (m : List D → List D → MH → Q3 → Prop) : Prop := ∀ ys p zs xs vs H M Q Q2, SqT K H p zs → Rvs K H ys zs → Rvs K H xs vs → Abs K M H → m ys xs M Q → Got K H Q Q2 → r (.ref p) vs H Q2
theorem d_tm {name : Str} {id : String} {r : V → List V → Hp → VK → Prop} {m : List D → List D → MH → Q3 → Prop} {apos cpos : Pos} (slot : Slot "tuple" name id) (hty : typeOf (.builtin id) = pure (.type "method_descriptor")) (hm : MtR X id r) (hl : MtT X.K r m) (ho : DE X o to) (ha : DA X (e :: es) u)
    (hbase : attributeBase o name X.env (eval o X.env) = eval o X.env)
    (hfew : ((backTo cpos (starEach (e :: es) X.env)).all (fun x => !x.1) && (backToKw cpos (keywordEach [] X.env)).all (fun x => x.1.isSome) && decide ((e :: es).length + ([] : List Keyword).length + (if ([] : List Keyword).isEmpty then 0 else 1) < 30)) = true)
    (hline : (apos.endLine == cpos.line) = true) (hs : starEach (e :: es) X.env = (false, eval e X.env) :: starEach es X.env) (hplain : (backTo cpos (starEach es X.env)).any (·.1) = false) :
    DE X (.Call (.Attribute o name apos) (e :: es) [] cpos) (e3Tm m to u) := fun W2 tk => (pe_tmD slot hty hm (ho W2 tk) (ha W2 tk) hbase hfew hline hs hplain).imp fun σ H Q2 ⟨env, M, W, Q, s, a, l, q, g⟩ => by
  refine ⟨env, M, W, _, s, a, l, q, fun od v H1 M1 t1 a1 r1 q1 => ?_⟩
  split at q1
  · obtain ⟨p, zs, rfl, sq, rz⟩ := r1.tup_invD
    exact ⟨⟨p, zs, rfl, sq⟩, env, M1, W, _, s.mono t1, a1, l.mono t1, q1, fun xs ws H2 M2 t2 a2 r2 q2 => hl _ p zs xs ws H2 M2 Q Q2 (t2.seq sq.1) (rz.mono t2) r2 a2 q2 (g.mono (t1.trans t2))⟩
  · exact q1.elim
/-! ### t.index(i), l.index(i) -/
theorem ints_flat (ns : List Int) : (ns.map V.int).all flatV = true := by
  rw [List.all_map]
  exact List.all_eq_true.mpr fun _ _ => rfl
theorem idx_first : ∀ {ns : List Int} {z : Int} {m : Nat} {y : Int}, m < ns.idxOf z → ns[m]? = some y → y ≠ z
  | n :: ns, z, m, y, h, e => by
    rw [List.idxOf_cons] at h
    by_cases hz : (n == z) = true
    · rw [hz] at h
      simp at h
    · have hz' : (n == z) = false := by simpa using hz
      rw [hz'] at h
      cases m with
      | zero =>
        simp at e
        subst e
        simpa using hz
      | succ m => exact idx_first (ns := ns) (z := z) (m := m) (by simpa using h) (by simpa using e)
theorem idx_at {ns : List Int} {z : Int} (h : z ∈ ns) : ns[ns.idxOf z]? = some z := by
  have hl := List.idxOf_lt_length_iff.mpr h
  rw [List.getElem?_eq_getElem hl, List.getElem_idxOf hl]
theorem mt_tix : MtR X "tuple.index" (fun x xs H Q => ∃ p, ∃ ns : List Int, ∃ z, x = .ref p ∧ xs = [.int z] ∧ SqT X.K H p (ns.map V.int) ∧ z ∈ ns ∧ Q (.int (ns.idxOf z : Nat)) H) := by
  rintro pins s σ H x xs v us Q I rx rs ⟨p, ns, z, rfl, rfl, hq, hz, q⟩
  cases rx
  obtain ⟨u, rfl, t, rfl⟩ := vals1 rs
  obtain ⟨its, r, ⟨⟨cls, dd, dt, sl⟩, ho, hc, n, hd⟩, _⟩ := I.tuple hq
  simp only at hc hd
  subst hc hd
  have many : its.length = ns.length := by rw [← r.length, List.length_map]
  have at_ : ∀ (m : Nat) (hm : m < its.toArray.size) (y : Int), ns[m]? = some y → ∃ k, its.toArray[m] = Value.int y k := fun m hm y e => by
    obtain ⟨w, hw, k, hk⟩ := r.get (i := m) (x := .int y) (by rw [List.getElem?_map, e]; rfl)
    refine ⟨k, ?_⟩
    rw [← hk, ← (List.getElem?_eq_some_iff.mp hw).2]
    simp
  have hj : ns.idxOf z < its.toArray.size := by rw [List.size_toArray, many]; exact List.idxOf_lt_length_iff.mpr hz
  refine call_meets PySem.F.slot_tuple_index ⟨_, ho, rfl⟩ PySem.F.entry_tuple_index (PySem.F.args_tuple_index_2 _ _) (TI.tuple_indexAt p its.toArray n dd sl (.int z t) (eqU (.int z)) (ns.idxOf z) hj ?_ ?_)
    ⟨ho, fun w hw => mem_eqAt (x := .int z) ⟨t, rfl⟩ rfl r (ints_flat ns) w (by simpa using hw), .int (ns.idxOf z : Nat), H, I.tok _, ⟨_, rfl⟩, q⟩
  · obtain ⟨k, e⟩ := at_ _ hj z (idx_at hz)
    rw [e]
    exact beq_self_eq_true z
  · intro m hm hlt
    have hm' : m < ns.length := by rw [← many]; simpa using hm
    obtain ⟨k, e⟩ := at_ m hm ns[m] (List.getElem?_eq_getElem hm')
    rw [e]
    exact beq_eq_false_iff_ne.mpr (idx_first hlt (List.getElem?_eq_getElem hm'))
def m3Tix : List D → List D → MH → Q3 → Prop
  | ys, [.int z], M, Q => ∃ ns : List Int, ys = ns.map D.int ∧ z ∈ ns ∧ Q (.int (ns.idxOf z : Nat)) M
  | _, _, _, _ => False
theorem mt_tix3 : MtT X.K (fun x xs H Q => ∃ p, ∃ ns : List Int, ∃ z, x = .ref p ∧ xs = [.int z] ∧ SqT X.K H p (ns.map V.int) ∧ z ∈ ns ∧ Q (.int (ns.idxOf z : Nat)) H) m3Tix := by
  intro ys p zs xs vs H M Q Q2 sq rz rx a q g
  unfold m3Tix at q
  split at q
  · obtain ⟨ns, rfl, hz, q⟩ := q
    obtain ⟨v, rfl, rr⟩ := one_inv rx
    rw [rr.int_inv]
    rw [Rvs.intsV rz] at sq
    exact ⟨p, ns, _, rfl, rfl, sq, hz, g _ _ H M (Tps.refl H) a Rv.int q⟩
  · exact q.elim
theorem d_tix {apos cpos : Pos} (ho : DE X o to) (ha : DA X [e] u) (hbase : attributeBase o "index" X.env (eval o X.env) = eval o X.env := by rfl)
    (hfew : ((backTo cpos (starEach (e :: []) X.env)).all (fun x => !x.1) && (backToKw cpos (keywordEach [] X.env)).all (fun x => x.1.isSome) && decide ((e :: []).length + ([] : List Keyword).length + (if ([] : List Keyword).isEmpty then 0 else 1) < 30)) = true := by rfl)
    (hline : (apos.endLine == cpos.line) = true := by rfl) (hs : starEach (e :: []) X.env = (false, eval e X.env) :: starEach [] X.env := by rfl) (hplain : (backTo cpos (starEach [] X.env)).any (·.1) = false := by rfl) :
    DE X (.Call (.Attribute o "index" apos) [e] [] cpos) (e3Tm m3Tix to u) := d_tm PySem.F.slot_tuple_index PySem.F.type_tuple_index mt_tix mt_tix3 ho ha hbase hfew hline hs hplain
def m3Lix (l : Addr) : List D → MH → Q3 → Prop
  | [.int z], M, Q => ∃ ns : List Int, LstM M l (ns.map D.int) ∧ z ∈ ns ∧ Q (.int (ns.idxOf z : Nat)) M
  | _, _, _ => False
theorem mt_lix3 : MtL K (rIndex K) m3Lix := by
  intro l xs vs H M Q Q2 r a q g
  unfold m3Lix at q
  split at q
  · obtain ⟨ns, hl, hz, q⟩ := q
    obtain ⟨v, rfl, rr⟩ := one_inv r
    obtain ⟨ws, hs, hw⟩ := a.rd hl
    rw [Rvs.intsV hw] at hs
    rw [rr.int_inv]
    refine ⟨l, ns.map V.int, _, ns.idxOf _, .int _, rfl, rfl, hs, rfl, ints_flat ns, by rw [List.getElem?_map, idx_at hz]; rfl, beq_self_eq_true _, fun m z' hlt e => ?_, g _ _ H M (Tps.refl H) a Rv.int q⟩
    rw [List.getElem?_map] at e
    cases e2 : ns[m]? with
    | none => rw [e2] at e; cases e
    | some y =>
      rw [e2] at e
      cases e
      exact beq_eq_false_iff_ne.mpr (idx_first hlt e2)
  · exact q.elim
theorem d_lix {apos cpos : Pos} (ho : DE X o to) (ha : DA X [e] u) (hbase : attributeBase o "index" X.env (eval o X.env) = eval o X.env := by rfl)
    (hfew : ((backTo cpos (starEach (e :: []) X.env)).all (fun x => !x.1) && (backToKw cpos (keywordEach [] X.env)).all (fun x => x.1.isSome)
      && decide ((e :: []).length + ([] : List Keyword).length + (if ([] : List Keyword).isEmpty then 0 else 1) < 30)) = true := by rfl)
    (hline : (apos.endLine == cpos.line) = true := by rfl) (hs : starEach (e :: []) X.env = (false, eval e X.env) :: starEach [] X.env := by rfl) (hplain : (backTo cpos (starEach [] X.env)).any (·.1) = false := by rfl) :
    DE X (.Call (.Attribute o "index" apos) [e] [] cpos) (e3Bm m3Lix to u) := d_bm PySem.F.slot_list_index PySem.F.type_list_index mt_index mt_lix3 ho ha hbase hfew hline hs hplain
/-! ### repr(x) -/
def Shw (d : PyData) : Prop := d.showable = true ∧ d.hasDict = false ∧ d.depth ≤ 100 ∧ d.shown.length ≤ sizeLine
def rRepr (K : Fg) : List V → Hp → VK → Prop := fun vs H Q => ∃ v d, vs = [v] ∧ Dp K H v d ∧ Shw d ∧ Q (.str d.shown) H
theorem cr_repr {k : Nat} (hr : RoomG k X.A) : CallR X (.builtin "repr") (rRepr X.K) := by
  rintro pins s σ H xs us Q I r ⟨v, d, rfl, hd, ⟨h1, h2, h3, h4⟩, q⟩
  obtain ⟨w, rfl, rv⟩ := vals1 r
  have big : ∀ {a : Addr} {as : List Addr}, w = .ref a → Reads s.heap (.ref a) d as → wpAny (model X.prog X.w) X.A (call (.builtin "repr") [w]) (EP X pins σ Q) X.xe s := fun e rd => by
    subst e
    exact repr_of_reads' rd h1 (fun z => absurd z (by rw [h2]; decide)) hr.g (by have := hr.r.un; omega) (fun _ _ e => e) (fun h' u tk hk => ⟨.str d.shown, H, I.kept hk, ⟨_, rfl⟩, q⟩) h4
  obtain ⟨as, rd⟩ := Dp.reads I d v w hd rv
  cases hd with
  | non =>
    cases (show w = .none from rv)
    exact PySem.P.repr_of_none ⟨.str _, H, I.tok _, ⟨_, rfl⟩, q⟩
  | bl b =>
    cases (show w = .bool b from rv)
    exact PySem.P.repr_of_bool ⟨.str _, H, I.tok _, ⟨_, rfl⟩, q⟩
  | int i =>
    obtain ⟨t, rfl⟩ := rv
    exact PySem.P.repr_of_int (by simpa [PyData.showable] using h1) ⟨.str _, H, I.tok _, ⟨_, rfl⟩, q⟩
  | str x =>
    obtain ⟨t, rfl⟩ := rv
    exact PySem.P.repr_of_str ⟨.str _, H, I.tok _, ⟨_, rfl⟩, q⟩ h4
  | lst hs ha => cases (show w = .ref _ from rv); exact big rfl rd
  | tup hs ha => cases (show w = .ref _ from rv); exact big rfl rd
@[irreducible] def c3Repr : List D → MH → Q3 → Prop := fun ds M Q => ∃ d p, ds = [d] ∧ Py M d p ∧ Shw p ∧ Q (.str p.shown) M
theorem repr_is {M : MH} {Q : Q3} {d : D} {p : PyData} (h : Py M d p) (s : Shw p) (q : Q (.str p.shown) M) : c3Repr [d] M Q := by
  unfold c3Repr
  exact ⟨d, p, rfl, h, s, q⟩
theorem cl_repr : CallL K (rRepr K) c3Repr := by
  intro ds vs H M Q Q2 r a q g
  unfold c3Repr at q
  obtain ⟨d, p, rfl, hp, s, q⟩ := q
  obtain ⟨v, rfl, rr⟩ := one_inv r
  exact ⟨v, p, rfl, Py.dp a p d v hp rr, s, g _ _ H M (Tps.refl H) a Rv.str q⟩
theorem boot_repr' : bootBuiltins "repr" = some (.builtin "repr") := by decide +kernel
theorem d_repr {k : Nat} (hr : RoomG k X.A) (hm : X.mg "repr" = none) (ha : DA X [e] u) (hg : Gl X "repr" := by rfl) (he : starEach (e :: []) X.env = (false, eval e X.env) :: starEach [] X.env := by rfl) (hpl : (backTo pos (starEach [] X.env)).any (·.1) = false := by rfl) : DE X (.Call (.Name "repr" p) [e] [] pos) (e3CB c3Repr u) :=
  d_cb (cr_repr hr) cl_repr hg hm boot_repr' ha (by decide) (by decide) he hpl
mutual
def smallP : PyData → Bool
  | .none | .bool _ => true
  | .int i => decide (i.natAbs < 1000000000)
  | .str x => x.cps.toList.all fun c => decide (c < 16 ^ 8)
  | .list xs | .tuple xs => smallPs xs
  | .dict _ => false
def smallPs : List PyData → Bool
  | [] => true
  | x :: xs => smallP x && smallPs xs
end
mutual
theorem small_show : ∀ p : PyData, smallP p = true → p.showable = true ∧ p.hasDict = false ∧ p.leavesShort 10 = true
  | .none, _ => ⟨rfl, rfl, rfl⟩
  | .bool _, _ => ⟨rfl, rfl, rfl⟩
  | .int i, h => by
    have h' : i.natAbs < 1000000000 := by simpa [smallP] using h
    refine ⟨?_, by simp [PyData.hasDict], ?_⟩
    · simp only [PyData.showable, decide_eq_true_eq]
      have : i.natAbs.log2 < 30 := by
        by_cases h0 : i.natAbs = 0
        · rw [h0]; decide
        · exact (Nat.log2_lt h0).mpr (by omega)
      omega
    · simp only [PyData.leavesShort, decide_eq_true_eq]
      have e2 : (PyData.int i).shown.length = (toString i).length := by
        show (Str.ofString (toString i)).length = _
        exact PySem.ofString_length _
      rw [e2]
      exact int_text_length_le10 (k := 9) (by decide) h'
  | .str x, h => ⟨by simp [PyData.showable], by simp [PyData.hasDict], by simpa only [PyData.leavesShort, smallP] using h⟩
  | .list xs, h => by
    obtain ⟨a, b, c⟩ := smalls_show xs (by simpa [smallP] using h)
    exact ⟨by simpa [PyData.showable] using a, by simpa [PyData.hasDict] using b, by simpa [PyData.leavesShort] using c⟩
  | .tuple xs, h => by
    obtain ⟨a, b, c⟩ := smalls_show xs (by simpa [smallP] using h)
    exact ⟨by simpa [PyData.showable] using a, by simpa [PyData.hasDict] using b, by simpa [PyData.leavesShort] using c⟩
  | .dict _, h => by simp [smallP] at h
theorem smalls_show : ∀ ps : List PyData, smallPs ps = true → PyData.showableAll ps = true ∧ PyData.hasDictAll ps = false ∧ PyData.leavesShortAll 10 ps = true
  | [], _ => by simp [PyData.showableAll, PyData.hasDictAll, PyData.leavesShortAll]
  | x :: xs, h => by
    have h' : smallP x = true ∧ smallPs xs = true := by simpa [smallPs] using h
    obtain ⟨a, b, c⟩ := small_show x h'.1
    obtain ⟨a', b', c'⟩ := smalls_show xs h'.2
    simp [PyData.showableAll, PyData.hasDictAll, PyData.leavesShortAll, a, b, c, a', b', c']
end
theorem shw_of {p : PyData} (h : smallP p = true) (hd : p.depth ≤ 100) (hw : p.weight ≤ 2 ^ 20) : Shw p := by
  obtain ⟨a, b, c⟩ := small_show p h
  exact ⟨a, b, hd, PyData.shown_fits (B := 10) (by decide) (by decide) c hw⟩
/-! ### values without lists -/
mutual
def pyOf : D → PyData
  | .bl b => .bool b
  | .int i => .int i
  | .str x => .str x
  | .tup ds => .tuple (pysOf ds)
  | _ => .none
def pysOf : List D → List PyData
  | [] => []
  | d :: ds => pyOf d :: pysOf ds
end
mutual
def pureD : D → Bool
  | .non | .bl _ | .int _ | .str _ => true
  | .tup ds => pureDs ds
  | _ => false
def pureDs : List D → Bool
  | [] => true
  | d :: ds => pureD d && pureDs ds
end
mutual
theorem py_of {M : MH} : ∀ d : D, pureD d = true → Py M d (pyOf d)
  | .non, _ => by unfold pyOf; exact .non
  | .bl b, _ => by unfold pyOf; exact .bl b
  | .int i, _ => by unfold pyOf; exact .int i
  | .str x, _ => by unfold pyOf; exact .str x
  | .tup ds, h => by unfold pyOf; exact .tup (pys_of ds (by simpa [pureD] using h))
  | .ref _, h => by simp [pureD] at h
  | .ty _, h => by simp [pureD] at h
theorem pys_of {M : MH} : ∀ ds : List D, pureDs ds = true → Pys M ds (pysOf ds)
  | [], _ => by unfold pysOf; exact .nil
  | d :: ds, h => by
    have h' : pureD d = true ∧ pureDs ds = true := by simpa [pureDs] using h
    unfold pysOf
    exact .cons (py_of d h'.1) (pys_of ds h'.2)
end
end
end L3

namespace L3
open PySem PySem.Spec PyProof.Rows L2
/-! ### data that may be shown: by depth and weight -/
structure Fit (k w : Nat) (d : D) : Prop where
  pu : pureD d = true
  sm : smallP (pyOf d) = true
  dp : (pyOf d).depth ≤ k
  wt : (pyOf d).weight ≤ w
theorem Fit.mono {k w k' w' : Nat} {d : D} (h : Fit k w d) (hk : k ≤ k') (hw : w ≤ w') : Fit k' w' d := ⟨h.pu, h.sm, Nat.le_trans h.dp hk, Nat.le_trans h.wt hw⟩
theorem fit_non {k w : Nat} : Fit k w .non := ⟨rfl, rfl, by simp [pyOf, PyData.depth], by simp [pyOf, PyData.weight]⟩
theorem fit_bl {k w : Nat} {b : Bool} : Fit k w (.bl b) := ⟨rfl, rfl, by simp [pyOf, PyData.depth], by simp [pyOf, PyData.weight]⟩
theorem fit_int {k w : Nat} {i : Int} (h : i.natAbs < 1000000000) (hw : 30 ≤ w) : Fit k w (.int i) := by
  refine ⟨rfl, by simpa [pyOf, smallP] using h, by simp [pyOf, PyData.depth], ?_⟩
  simp only [pyOf, PyData.weight]
  split
  · exact Nat.zero_le _
  · rename_i h0
    have h0' : i.natAbs ≠ 0 := by
      intro z
      exact h0 (by simpa using Int.natAbs_eq_zero.mp z)
    have := (Nat.log2_lt h0' (k := 30)).mpr (by omega)
    omega
theorem smalls_all : ∀ {ds : List D}, (∀ x ∈ ds, smallP (pyOf x) = true) → smallPs (pysOf ds) = true
  | [], _ => by simp [pysOf, smallPs]
  | d :: ds, h => by
    simp only [pysOf, smallPs, Bool.and_eq_true]
    exact ⟨h d List.mem_cons_self, smalls_all fun x hx => h x (List.mem_cons_of_mem _ hx)⟩
theorem pures_all : ∀ {ds : List D}, (∀ x ∈ ds, pureD x = true) → pureDs ds = true
  | [], _ => by simp [pureDs]
  | d :: ds, h => by
    simp only [pureDs, Bool.and_eq_true]
    exact ⟨h d List.mem_cons_self, pures_all fun x hx => h x (List.mem_cons_of_mem _ hx)⟩
theorem depths_all {k : Nat} : ∀ {ds : List D}, (∀ x ∈ ds, (pyOf x).depth ≤ k) → PyData.depthAll (pysOf ds) ≤ k
  | [], _ => by simp [pysOf, PyData.depthAll]
  | d :: ds, h => by
    have h1 := h d List.mem_cons_self
    have h2 := depths_all (k := k) fun x hx => h x (List.mem_cons_of_mem d hx)
    simp only [pysOf, PyData.depthAll]
    omega
theorem weights_all {w : Nat} : ∀ {ds : List D}, (∀ x ∈ ds, (pyOf x).weight ≤ w) → PyData.weightAll (pysOf ds) ≤ ds.length * (w + 1)
  | [], _ => by simp [pysOf, PyData.weightAll]
  | d :: ds, h => by
    have h1 := h d List.mem_cons_self
    have h2 := weights_all (w := w) fun x hx => h x (List.mem_cons_of_mem d hx)
    simp only [pysOf, PyData.weightAll, List.length_cons]
    have : (ds.length + 1) * (w + 1) = ds.length * (w + 1) + (w + 1) := by rw [Nat.add_mul, Nat.one_mul]
    omega
theorem fit_tup {k w n : Nat} {ds : List D} (h : ∀ x ∈ ds, Fit k w x) (hl : ds.length ≤ n) {w' : Nat} (hw : n * (w + 1) ≤ w') {k' : Nat} (hk : k + 1 ≤ k') : Fit k' w' (.tup ds) := by
  refine ⟨?_, ?_, ?_, ?_⟩
  · simp only [pureD]; exact pures_all fun x hx => (h x hx).pu
  · simp only [pyOf, smallP]; exact smalls_all fun x hx => (h x hx).sm
  · have := depths_all (k := k) fun x hx => (h x hx).dp
    simp only [pyOf, PyData.depth]
    omega
  · have h1 := weights_all (w := w) fun x hx => (h x hx).wt
    have h2 : ds.length * (w + 1) ≤ n * (w + 1) := Nat.mul_le_mul_right _ hl
    simp only [pyOf, PyData.weight]
    omega
theorem fit_row {n : Nat} {r : List Int} (h : ∀ x ∈ r, x.natAbs < 1000000000) (hl : r.length ≤ n) : Fit 1 (n * 31) (rowD r) := by
  refine fit_tup (k := 0) (w := 30) (n := n) (fun x hx => ?_) (by simpa using hl) (Nat.le_refl _) (Nat.le_refl _)
  obtain ⟨i, hi, rfl⟩ := List.mem_map.mp hx
  exact fit_int (h i hi) (Nat.le_refl _)
theorem repr_fit {M : MH} {Q : Q3} {d : D} {k w : Nat} (h : Fit k w d) (q : Q (.str (pyOf d).shown) M) (hk : k ≤ 100 := by decide) (hw : w ≤ 1048576 := by decide) : c3Repr [d] M Q :=
  repr_is (py_of d h.pu) (shw_of h.sm (Nat.le_trans h.dp hk) (Nat.le_trans h.wt hw)) q
/-! ### the hand, exactly -/
structure HandD (M : MH) (h d : Addr) (n : Int) : Prop where
  own : M h = some (.lst [.ref d, .int n])
  ne : d ≠ h
  n0 : 0 ≤ n
  ex : ∃ xs : List Int, M d = some (.lst (xs.map D.int)) ∧ ∀ x ∈ xs, (0 : Int) ≤ x
def setH (M : MH) (h d : Addr) (n : Int) : MH := updM M h (.lst [.ref d, .int n])
section
variable {M M' : MH} {h d p : Addr} {n m : Int} {o : MO}
theorem setH_at : setH M h d n h = some (.lst [.ref d, .int n]) := updM_same
theorem setH_ne {b : Addr} (e : b ≠ h) : setH M h d n b = M b := updM_ne e
theorem setH_setH : setH (setH M h d n) h d m = setH M h d m := updM_updM
theorem HandD.self (z : HandD M h d n) : setH M h d n = M := by
  funext b
  by_cases e : b = h
  · subst e; rw [setH_at, z.own]
  · exact setH_ne e
theorem HandD.set (z : HandD M h d n) (m0 : 0 ≤ m) : HandD (setH M h d m) h d m := ⟨setH_at, z.ne, m0, by
  obtain ⟨xs, e, q⟩ := z.ex
  exact ⟨xs, (setH_ne z.ne).trans e, q⟩⟩
theorem HandD.sub (z : HandD M h d n) (s : Sub M M') : HandD M' h d n := ⟨s _ _ z.own, z.ne, z.n0, by
  obtain ⟨xs, e, q⟩ := z.ex
  exact ⟨xs, s _ _ e, q⟩⟩
/-- the hand goes on, beside what was made -/
theorem subH (s : Sub (setH M h d n) M') : Sub (setH M h d m) (setH M' h d m) := fun b u e => by
  by_cases hb : b = h
  · subst hb
    rw [setH_at] at e ⊢
    exact e
  · rw [setH_ne hb] at e ⊢
    exact s b u ((setH_ne hb).trans e)
theorem HandD.at_ (z : HandD M h d n) (s : Sub (setH M h d m) M') (m0 : 0 ≤ m) : HandD M' h d m := (z.set m0).sub s
theorem HandD.start (z : HandD M h d n) : Sub (setH M h d n) M := by rw [z.self]; exact Sub.refl M
theorem free_h (s : Sub (setH M h d n) M') (np : M' p = none) : p ≠ h := by
  intro e
  subst e
  rw [s _ _ setH_at] at np
  cases np
theorem free_old (s : Sub (setH M h d n) M') (np : M' p = none) : M p = none := by
  have e := s.free np
  rwa [setH_ne (free_h s np)] at e
end
def spTakeD : Sp3 := fun ds M Q _ => ∃ (h d : Addr) (n m : Int), ds = [.ref h, .int m] ∧ HandD M h d n ∧ 0 < m ∧ ∀ v, 0 ≤ v → v < m → Q (.int v) (setH M h d (n + 1))
theorem rdTakeD : Rd3 NTake tTake spTakeD := by
  rintro ds M Q E ⟨h, d, n, m, rfl, z, hm, q⟩
  obtain ⟨xs, hd, hx⟩ := z.ex
  refine ⟨_, .int n, .inl z.own, rfl, _, 1, z.own, rfl, _, .ref d, .inl updM_same, rfl, ?_⟩
  have hd' : (updM M h (.lst [.ref d, .int (n + 1)])) d = some (.lst (xs.map D.int)) := (updM_ne z.ne).trans hd
  refine ⟨_, .inl hd', fun e => ?_, fun e => ?_⟩
  · exact ⟨_, Sub.refl _, q 0 (Int.le_refl _) hm⟩
  · have e' := of_decide_eq_false e
    rw [List.length_map] at e'
    obtain ⟨x, hxm, hat, _⟩ := at_ints (xs := xs) z.n0 (by omega)
    exact ⟨_, _, .inl hd', hat, ⟨by decide, by decide⟩, hm, ⟨_, Sub.refl _, q _ (Int.emod_nonneg _ (by omega)) (Int.emod_lt_of_pos _ hm)⟩⟩
/-- hand = [draws, 0] -/
theorem hand_new {M : MH} {d h : Addr} {xs : List Int} (nd : M d = none) (hx : ∀ x ∈ xs, (0 : Int) ≤ x) (nh : updM M d (.lst (xs.map D.int)) h = none) : HandD (updM (updM M d (.lst (xs.map D.int))) h (.lst [.ref d, .int 0])) h d 0 := by
  have ne : d ≠ h := by
    intro e
    subst e
    rw [updM_same] at nh
    cases nh
  exact ⟨updM_same, ne, Int.le_refl _, xs, (updM_ne ne).trans updM_same, hx⟩
/-! ### order = [k for k in range(many)], with drawn exchanges -/
def rngI (n : Nat) : List Int := (List.range n).map fun k : Nat => (k : Int)
theorem rngI_D (n : Nat) : rngD 0 n = (rngI n).map D.int := by
  unfold rngD rngI
  rw [List.map_map]
  exact List.map_congr_left fun i _ => by
    show D.int (0 + (i : Int)) = _
    rw [Int.zero_add]; rfl
theorem rngI_length {n : Nat} : (rngI n).length = n := by unfold rngI; simp
theorem mem_rngI {n : Nat} {x : Int} : x ∈ rngI n ↔ 0 ≤ x ∧ x < n := by
  unfold rngI
  rw [List.mem_map]
  constructor
  · rintro ⟨k, hk, rfl⟩
    have := List.mem_range.mp hk
    omega
  · rintro ⟨h0, h1⟩
    obtain ⟨k, rfl⟩ := Int.eq_ofNat_of_zero_le h0
    exact ⟨k, List.mem_range.mpr (by omega), rfl⟩
/-- an order of 0 .. m - 1 -/
def Ord (m : Nat) (l : List Int) : Prop := l.Perm (rngI m)
theorem Ord.len {m : Nat} {l : List Int} (h : Ord m l) : l.length = m := h.length_eq.trans rngI_length
theorem Ord.mem {m : Nat} {l : List Int} (h : Ord m l) {x : Int} : x ∈ l ↔ 0 ≤ x ∧ x < m := h.mem_iff.trans mem_rngI
theorem Ord.swap {m : Nat} {l : List Int} (h : Ord m l) {i j : Nat} (hi : i < l.length) (hj : j < l.length) : Ord m ((l.set i l[j]).set j l[i]) := (List.set_set_perm hi hj).trans h
def tOrder (sp : Sp3) : S3 :=
    (s3Seq (s3Asg (e3Lc (i3Rng1 (a3Cons (e3Var 1) a3Nil)) 3 t3Yes (e3Var 3) [3]) 2)
    (s3Seq (s3For (i3Rng1 (a3Cons (e3Var 1) a3Nil)) (g3Name 3) (s3Seq (s3Asg (e3Call sp (a3Cons (e3Var 0) (a3Cons (e3Var 1) a3Nil))) 4)
    (s3Seq (s3Asg (e3Op r3Ix (e3Var 2) (e3Var 3)) 5)
    (s3Seq (s3AsgG (e3Op r3Ix (e3Var 2) (e3Var 4)) (g3SubL (e3Var 2) (e3Var 3)))
    (s3AsgG (e3Var 5) (g3SubL (e3Var 2) (e3Var 4)))))))
    (s3Ret (e3TupOf (e3Var 2)))))
abbrev NOrder : List Str := ["hand", "many", "order", "k", "at", "kept"]
def spOrder : Sp3 := fun ds M Q _ => ∃ (h d : Addr) (n : Int) (m : Nat), ds = [.ref h, .int (m : Int)] ∧ HandD M h d n ∧ 1 ≤ m ∧ m ≤ 100000 ∧ ∀ l n', Ord m l → 0 ≤ n' → Q (rowD l) (setH M h d n')
theorem ixN_nat {n i : Nat} (h : i < n) : ixN n (i : Int) = some i := by
  unfold ixN
  rw [if_pos (by omega), if_pos (by omega)]
  simp
theorem get_map {l : List Int} {i : Nat} (h : i < l.length) : (l.map D.int)[i]? = some (.int l[i]) := by
  rw [List.getElem?_map, List.getElem?_eq_getElem h]; rfl
theorem rdOrder : Rd3 NOrder (tOrder spTakeD) spOrder := by
  rintro ds M Q E ⟨h, d, n, m, rfl, z, m1, m2, q⟩
  refine ⟨by omega, by omega, fun p np => lcMap id np (fun _ _ => trivial) (fun k x M' R hd s k2 => k2 M' (Sub.refl _)) (szLt (by rw [rngD_length]; omega)) fun M1 s1 h1 => ?_⟩
  rw [List.map_id, Int.toNat_natCast, rngI_D] at h1
  refine ⟨by omega, by omega, fun i env' M' => ∃ (s3 s4 s5 : Option D) (l : List Int) (n' : Int), env' = [some (.ref h), some (.int m), some (.ref p), s3, s4, s5] ∧ 0 ≤ n' ∧ Sub (setH M h d n') M' ∧ M' p = some (.lst (l.map D.int)) ∧ Ord m l, ?_, ?_, ?_⟩
  · exact ⟨_, _, _, rngI m, n, rfl, z.n0, by rw [z.self]; exact s1, h1, List.Perm.refl _⟩
  · rintro i x env' M' hd ⟨s3, s4, s5, l, n', rfl, n0, sub, hp, ord⟩
    obtain ⟨hi, rfl⟩ := rngD_get hd
    rw [Int.toNat_natCast] at hi
    rw [Int.zero_add]
    have hne : p ≠ h := by
      intro e
      subst e
      rw [sub _ _ setH_at] at hp
      injection hp with hp
      injection hp with hp
      have := ord.len
      match l, hp with
      | [a, b], hp => cases hp
    refine ⟨trivial, h, d, n', m, rfl, z.at_ sub n0, by omega, fun v v0 v1 => ?_⟩
    obtain ⟨j, rfl⟩ := Int.eq_ofNat_of_zero_le v0
    have hi' : i < l.length := by rw [ord.len]; exact hi
    have hj' : j < l.length := by rw [ord.len]; omega
    have hp2 : setH M' h d (n' + 1) p = some (.lst (l.map D.int)) := (setH_ne hne).trans hp
    refine ⟨_, _, .inl hp2, atI_nat (get_map hi'), _, _, .inl hp2, atI_nat (get_map hj'), _, i, hp2, by rw [List.length_map]; exact ixN_nat hi', ?_⟩
    rw [← List.map_set]
    refine ⟨_, j, updM_same, by rw [List.length_map, List.length_set]; exact ixN_nat hj', ?_⟩
    rw [← List.map_set, updM_updM]
    refine ⟨_, _, _, _, n' + 1, rfl, by omega, ?_, updM_same, ord.swap hi' hj'⟩
    refine Sub.new (subH sub) ?_
    rw [setH_ne hne]
    exact np
  · rintro env' M' ⟨s3, s4, s5, l, n', rfl, n0, sub, hp, ord⟩
    exact ⟨trivial, _, .inl hp, _, sub, q l n' ord n0⟩
/-- a comprehension whose items are drawn -/
theorem lcHand {ds : List D} {i : Nat} {te : E3} {env : En} {p h d : Addr} {M M1 : MH} {n : Int} {Q : MH → Prop} (P : D → Prop) (sub0 : Sub (setH M h d n) M1) (n0 : 0 ≤ n) (np : M1 p = none)
    (he : ∀ (k : Nat) (x : D) (M' : MH) (n' : Int) (R : Q3), ds[k]? = some x → 0 ≤ n' → Sub (setH M h d n') M' → (∀ y n2, P y → 0 ≤ n2 → R y (setH M' h d n2)) → te W0 (env.set i (some x)) M' R) (hsz : ds.length < sizeLine)
    (hq : ∀ (acc : List D) (M' : MH) (n' : Int), acc.length = ds.length → (∀ y ∈ acc, P y) → 0 ≤ n' → Sub (setH M h d n') M' → M' p = some (.lst acc) → Q M') : LoopC ds True3 i t3Yes te env p M1 Q := by
  have ph : p ≠ h := free_h sub0 np
  have mp : M p = none := free_old sub0 np
  refine ⟨fun k acc M' => acc.length = k ∧ (∀ y ∈ acc, P y) ∧ k ≤ ds.length ∧ ∃ n', 0 ≤ n' ∧ Sub (setH M h d n') M', ⟨rfl, by simp, Nat.zero_le _, n, n0, sub0.new (sub0.free np)⟩, ?_, ?_⟩
  · rintro k x acc M' hx ⟨rfl, hp, hk, n', n0', sub⟩ hM
    have hlt : acc.length < ds.length := (List.getElem?_eq_some_iff.mp hx).1
    refine ⟨trivial, Br.tt (he acc.length x M' n' _ hx n0' sub fun y n2 py n20 => ⟨acc, (setH_ne ph).trans hM, Nat.lt_trans hlt hsz, by simp, fun z hz => ?_, hlt, n2, n20, Sub.new (subH sub) (by rw [setH_ne ph]; exact mp)⟩)⟩
    rcases List.mem_append.mp hz with hz | hz
    · exact hp z hz
    · rw [List.mem_singleton] at hz
      rw [hz]; exact py
  · rintro acc M' ⟨hl, hp, _, n', n0', sub⟩ hM
    exact ⟨trivial, hq acc M' n' hl hp n0' sub hM⟩
end L3

namespace L3
open PySem PySem.Spec PyProof.Rows L2
section
variable {X : Cx} {e a b c o : Expr} {es : List Expr} {pos p : Pos} {t ta tb tc to te : E3} {u : A3} {K : Fg} {st : Stmt} {sts body : List Stmt} {s1 s2 : S3} {tA tB : T3}
/-! ### while -/
def s3While (tt : T3) (tb : S3) : S3 := fun W D env M => ∃ Inv : Nat → En → MH → Prop, (∃ n, Inv n env M) ∧ ∀ n env' M', Inv n env' M' → tt W env' M' fun b M2 => Br b
  (tb W { nx := fun e2 M3 => ∃ n', n' < n ∧ Inv n' e2 M3, rt := D.rt, bk := D.nx, ct := fun e2 M3 => ∃ n', n' < n ∧ Inv n' e2 M3 } env' M2) (D.nx env' M2)
theorem ds_while (hc : DT X c tA) (hb : DSs X body s1) : DS X (.While c body [] pos) (s3While tA s1) := fun W2 tk hp => (ps_while hp (hc W2 tk) (hb W2 tk hp)).imp fun D2 σ H ⟨env, M, W, D3, s, a, l, ⟨Iv, ⟨n0, i0⟩, turn⟩, le⟩ => by
  refine ⟨fun n σ' H' => ∃ env' M', Tps H H' ∧ SE X.K H' σ' env' ∧ Abs X.K M' H' ∧ Iv n env' M', ⟨n0, env, M, Tps.refl H, s, a, i0⟩, ?_⟩
  rintro n σ' H' ⟨env', M', t', s', a', i'⟩
  refine ⟨env', M', W, _, s', a', l.mono t', turn n env' M' i', fun b H1 M1 t1 a1 q1 => ?_⟩
  have tt := t'.trans t1
  cases b with
  | true =>
    show if true = true then _ else _
    rw [if_pos rfl]
    have back : Nxt X.K H1 (fun e2 M3 => ∃ n', n' < n ∧ Iv n' e2 M3) fun σ2 H2 => ∃ n', n' < n ∧ ∃ env2 M2, Tps H H2 ∧ SE X.K H2 σ2 env2 ∧ Abs X.K M2 H2 ∧ Iv n' env2 M2 := fun σ2 H2 env2 M2 t2 s2 a2 ⟨n', hn, i2⟩ => ⟨n', hn, env2, M2, tt.trans t2, s2, a2, i2⟩
    exact ⟨fun σ2 H2 => ∃ n', n' < n ∧ ∃ env2 M2, Tps H H2 ∧ SE X.K H2 σ2 env2 ∧ Abs X.K M2 H2 ∧ Iv n' env2 M2, fun _ _ z => z, env', M1, W, _, s'.mono t1, a1, l.mono tt, q1.1 rfl, ⟨back, le.rt.mono tt, le.nx.mono tt, back⟩⟩
  | false =>
    show if false = true then _ else _
    rw [if_neg Bool.false_ne_true]
    exact le.nx σ' H1 env' M1 tt (s'.mono t1) a1 (q1.2 rfl)
/-! ### enumerate of a tuple -/
def IteT (K : Fg) (a : Addr) : It :=
  ⟨fun i H => ∃ (xs : List V) (x : V), SqT K H a xs ∧ xs[i]? = some x, fun i H v H' => ∃ T x o, v = .ref T ∧ H T = none ∧ o.dict = none ∧ H' = upd H T (.frz o (.tup [.int (i : Nat), x])) ∧ ∀ xs, SqT K H a xs → xs[i]? = some x, fun i H => ∃ xs : List V, SqT K H a xs ∧ xs.length = i⟩
theorem turn_enumT {P : Program} {w : World} {K : Fg} {elts : List Expr} {kk : Nat} {tpos : Pos} (a e it : Addr) (n1 : e ≠ it) (n2 : a ≠ it) (n3 : e ≠ a) :
    Turn P w K (.Tuple elts kk tpos) (IteT K a) [e, it] e (fun i h => (∃ old, IsEnum h e it ((i : Nat) : Int) old) ∧ h.IsTupleIter it a i) where
  mem := List.mem_cons_self
  obj := fun i h ⟨⟨old, he⟩, o, ho, hc, hd⟩ b hb => by
    rcases List.mem_cons.mp hb with rfl | hb
    · exact ⟨_, he, fun v q => nomatch q⟩
    · rw [List.mem_singleton.mp hb]
      exact ⟨o, ho, fun v q => by rw [hd] at q; cases q⟩
  keep := fun i h h' ⟨⟨old, he⟩, hi⟩ k => ⟨⟨old, k e (by simp) _ he⟩, hi.at fun o q => k it (by simp) o q⟩
  item := by
    rintro X rfl rfl rfl hc i pins s σ H E I hf ⟨⟨old, he⟩, hit⟩ ⟨xs, x, hq, hx⟩
    obtain ⟨its, rv, p, hz⟩ := I.tuple hq
    obtain ⟨u, hu, ru⟩ := rv.get hx
    have small : ∀ b ∈ [e, it], b < s.heap.objs.size := fun b hb => by
      rcases List.mem_cons.mp hb with rfl | hb
      · exact Heap.lt_size he
      · rw [List.mem_singleton.mp hb]
        obtain ⟨_, q, _⟩ := hit
        exact Heap.lt_size q
    have hlt : i < its.toArray.size := by simpa using (List.getElem?_eq_some_iff.mp hu).1
    refine wpAny_pyNext_enum_itemD (Draws.tuple (A := X.A.in1) (I.ok.hd hc) it a n2 its.toArray) he ⟨hit, p⟩ hlt n1 (by simp [n1, n3]) fun y h1 tk hy out ⟨hit1, _⟩ hT hsz hk => ?_
    have hyu : y = u := by
      have e1 : its[i]? = some y := by simpa using hy
      rw [hu] at e1
      cases e1
      rfl
    subst hyu
    refine ⟨_, rfl, wpAny_letOwnedTupleGo_enum (s := { s with heap := h1, toks := tk + 1 }) out fun h2 he2 sb => ?_⟩
    have hT2 : h2.get? s.heap.objs.size = some { cls := .type "tuple", data := .seq #[.int i tk, y] } := (sb.2 _ (Nat.ne_of_gt (small e (by simp)))).trans hT
    have I1 : Inv X pins σ (upd H s.heap.objs.size (.frz { cls := .type "tuple", data := .seq #[.int i tk, y] } (.tup [.int (i : Nat), x]))) { s with heap := h2, toks := tk + 1 } :=
      I.turnedNew (ch := [e, it]) (fun b ob hb q => (sb.2 b (fun z => hb (by simp [z]))).trans (hk b ob (fun z => hb (by simp [z])) (fun z => hb (by simp [z])) q)) hf (Nat.le_refl _)
        ⟨hT2, by show 2 ≤ sizeLine; decide, [.int i tk, y], .cons ⟨_, rfl⟩ (.cons ru .nil), ⟨_, hT2, rfl, _, rfl⟩⟩
    refine ⟨.ref s.heap.objs.size, _, I1, rfl, ⟨_, x, _, rfl, I.hok.fresh (Nat.le_refl _), rfl, rfl, fun ys hy => by rw [I.tuple_inj hy hq]; exact hx⟩, ⟨⟨y, by rw [show ((i + 1 : Nat) : Int) = (i : Int) + 1 by omega]; exact he2⟩, hit1.at fun o q => (sb.2 it (Ne.symm n1)).trans q⟩, fun b hb => ?_⟩
    rw [upd_ne (Nat.ne_of_lt (small b hb))]
    exact (hf b hb).1
  done := by
    rintro X rfl rfl rfl hc i pins s σ H E I hf ⟨⟨old, he⟩, hit⟩ ⟨xs, hq, rfl⟩
    obtain ⟨its, rv, p, hz⟩ := I.tuple hq
    obtain ⟨f0, f1, f2, f3, f4, f5⟩ := hf it (by simp)
    have hl : its.toArray.size = xs.length := List.size_toArray.trans rv.length.symm
    exact wpAny_pyNext_enum_endD (Draws.tuple (A := X.A.in1) (I.ok.hd hc) it a n2 its.toArray) he (by rw [hl]; exact ⟨hit, p⟩) fun h' eb => ⟨rfl, I.turned (t' := s.toks) (fun b o hb q => eb b o hb q) f0 f1 f3 f4 f5⟩
  self := fun A i s Q E ⟨⟨_, he⟩, _⟩ h => wpAny_pyIter_enum he h
open AutoSeq1 (wpAny_loadPart') in
theorem meets_enumT (l : Addr) (items : Array Value) (n : Nat) (dct : Option Addr) (sl : Array (Option Value)) :
    Meets (Builtin.«enumerate.__new__» ⟨[.type "enumerate", .ref l], []⟩) (fun _ R s => s.heap.get? l = some { cls := .type "tuple", dict := dct, data := .seq items n, slots := sl } ∧
      R (.ok (.ret (.ref (s.heap.push { cls := .type "tuple_iterator", data := .fields #[.ref l, .int 0 0] }).objs.size)))
        { s with heap := (s.heap.push { cls := .type "tuple_iterator", data := .fields #[.ref l, .int 0 0] }).push { cls := .type "enumerate", data := .fields #[.none, .bool false, .ref s.heap.objs.size, rawInt 0, .none, .none] } }) :=
  .of_wp fun prog w A R s ⟨hl, h⟩ => by
    obtain ⟨hp, g, d, tk, os⟩ := s
    have hsub := sub_enumerate
    have hT : Heap.IsTuple (Shared.heap ⟨hp, g, d, tk, os⟩) l items := ⟨_, hl, rfl, n, rfl⟩
    wp_walk using wpAny_loadPart' hl
    refine wpAny_stack_any fun st => wpAny_pure ?_
    split
    · rename_i c _ _ _ _ _
      cases (c == Value.type "enumerate") <;> (wp_walk using wpAny_loadPart' hl, wpAny_pyIter_tuple hT; exact ⟨_, rfl, h⟩)
    · wp_walk using wpAny_loadPart' hl, wpAny_pyIter_tuple hT
      exact ⟨_, rfl, h⟩
theorem call_enumT {prog : Program} {w : World} {A : Around} {E : Value → Shared → Prop} {s : Shared} {l : Addr} {items : Array Value} {Q : Value → Shared → Prop} (hL : s.heap.IsTuple l items)
    (h : ∀ h', IsEnum h' (s.heap.objs.size + 1) s.heap.objs.size 0 .none → h'.IsTupleIter s.heap.objs.size l 0 → (∀ b o, s.heap.get? b = some o → h'.get? b = some o) → Q (.ref (s.heap.objs.size + 1)) { s with heap := h' }) :
    wpAny (model prog w) A (call (.type "enumerate") [.ref l]) Q E s := by
  obtain ⟨⟨c, dct, dt, sl⟩, hl, hc, n, hd⟩ := hL
  cases (show c = .type "tuple" from hc)
  cases (show dt = .seq items n from hd)
  have two : ((s.heap.push { cls := .type "tuple_iterator", data := .fields #[.ref l, .int 0 0] }).push { cls := .type "enumerate", data := .fields #[.none, .bool false, .ref s.heap.objs.size, rawInt 0, .none, .none] }).get? (s.heap.objs.size + 1) =
      some { cls := .type "enumerate", data := .fields #[.none, .bool false, .ref s.heap.objs.size, rawInt 0, .none, .none] } := by
    have z := Heap.get?_push_size (s.heap.push { cls := .type "tuple_iterator", data := .fields #[.ref l, .int 0 0] }) (o := { cls := .type "enumerate", data := .fields #[.none, .bool false, .ref s.heap.objs.size, rawInt 0, .none, .none] }) rfl
    rw [Heap.size_push] at z
    exact z
  refine callType_new PySem.F.called_enumerate (by decide) (PySem.F.typeCall_enumerate_1 _) (PySem.F.newCall_enumerate_1 _) (fun obj => PySem.F.args_object_init_2 obj _) PySem.F.entry_enumerate_new (meets_enumT l items n dct sl) ⟨hl, ?_⟩
  rw [Heap.size_push]
  exact ⟨⟨_, two, rfl⟩, h _ two ⟨_, Heap.get?_push_of_some _ (Heap.get?_push_size _ rfl), rfl, rfl⟩ fun b o x => Heap.get?_push_of_some _ (Heap.get?_push_of_some _ x)⟩
def iEnumT (K : Fg) (ta : TA) : TI := fun σ H R => ta σ H fun vs H1 => ∃ a xs, vs = [.ref a] ∧ SqT K H1 a xs ∧ R (IteT K a) H1
theorem pi_enumT {ta : TA} {tpos : Pos} {elts : List Expr} {kk : Nat} (hg : Gl X "enumerate") (hm : X.mg "enumerate" = none) (ha : PA X [e] ta) (hs : starEach [e] X.env = [(false, eval e X.env)]) :
    PI X (.Tuple elts kk tpos) (.Call (.Name "enumerate" p) [e] [] pos) (iEnumT X.K ta) :=
  ⟨fun pins s σ H R I h => Call_ (ld_blt I hg hm boot_enumerate (PyProof.Rows.callWith_type1 (thn (ha.run pos pins s σ H _ I h) fun us s1 ⟨vs, H1, I1, r1, a, xs, ex, hq, q⟩ => by
    subst ex
    obtain ⟨v, rfl, rv⟩ := vals1 r1
    cases rv
    obtain ⟨its, rt, pl, hz⟩ := I1.tuple hq
    have ha : a < s1.heap.objs.size := by
      obtain ⟨o, ho, _⟩ := pl
      exact Heap.lt_size ho
    refine call_enumT (show s1.heap.IsTuple a its.toArray from pl) fun h' he hit hk => wpAny_pyIter_enum he ?_
    refine ⟨s1.heap.objs.size + 1, [s1.heap.objs.size + 1, s1.heap.objs.size], _, _, H1, rfl, I1.kept (t' := s1.toks) hk, turn_enumT a _ _ (Nat.succ_ne_self _) (Nat.ne_of_lt ha) (Nat.ne_of_gt (Nat.lt_succ_of_lt ha)), ⟨⟨.none, he⟩, hit⟩, fun b hb => ?_, q⟩
    have hle : s1.heap.objs.size ≤ b := by
      rcases List.mem_cons.mp hb with rfl | hb
      · exact Nat.le_add_right _ _
      · exact Nat.le_of_eq (List.mem_singleton.mp hb).symm
    exact I1.fpOk hle (I1.hok.fresh hle)) hs rfl))⟩
def enumD : Nat → List D → List D
  | _, [] => []
  | k, x :: xs => .tup [.int (k : Int), x] :: enumD (k + 1) xs
theorem enumD_length : ∀ {k : Nat} {xs : List D}, (enumD k xs).length = xs.length
  | _, [] => rfl
  | k, x :: xs => by rw [enumD, List.length_cons, enumD_length, List.length_cons]
theorem enumD_get : ∀ {k : Nat} {xs : List D} {i : Nat} {d : D}, (enumD k xs)[i]? = some d → ∃ x, xs[i]? = some x ∧ d = .tup [.int ((k + i : Nat) : Int), x]
  | _, [], i, d, h => by simp [enumD] at h
  | k, x :: xs, 0, d, h => by
    simp [enumD] at h
    exact ⟨x, rfl, h.symm⟩
  | k, x :: xs, i + 1, d, h => by
    obtain ⟨y, h1, h2⟩ := enumD_get (k := k + 1) (xs := xs) (i := i) (d := d) (by simpa [enumD] using h)
    refine ⟨y, h1, h2.trans ?_⟩
    rw [show k + 1 + i = k + (i + 1) by omega]
theorem itok_enumT {H : Hp} {p : Addr} {ds : List D} {vs : List V} (hs : SqT K H p vs) (hv : Rvs K H ds vs) : ItOk K H (enumD 0 ds) True3 (IteT K p) where
  step := fun i d H' M' hd t a _ => by
    obtain ⟨x, hx, rfl⟩ := enumD_get hd
    obtain ⟨v, hv', r⟩ := hv.get hx
    refine ⟨⟨vs, v, t.seq hs, hv'⟩, ?_⟩
    rintro y H2 ⟨T, z, ob, rfl, nT, dT, rfl, hz⟩
    have e := hz vs (t.seq hs)
    rw [hv'] at e
    cases e
    rw [Nat.zero_add]
    exact ⟨Tps.new nT, a.tupN nT, Rv.tup (SqD.of dT) (Rvs.cons Rv.int (Rvs.cons ((r.mono t).mono (Tps.new nT)) Rvs.nil))⟩
  stop := fun H' M' t a _ => ⟨vs, t.seq hs, by rw [enumD_length]; exact hv.length.symm⟩
def i3Enum (u : A3) : I3 := fun W env M Q => u W env M fun ds M1 => match ds with
  | [.tup xs] => Q (enumD 0 xs) True3 M1
  | _ => False
theorem di_enumerate {elts : List Expr} {kk : Nat} {tpos : Pos} (hm : X.mg "enumerate" = none) (ha : DA X [e] u) (hg : Gl X "enumerate" := by rfl) (hs : starEach [e] X.env = [(false, eval e X.env)] := by rfl) : DI X (.Tuple elts kk tpos) (.Call (.Name "enumerate" p) [e] [] pos) (i3Enum u) := fun W2 tk =>
  (pi_enumT hg hm (ha W2 tk) hs).imp fun σ H R ⟨env, M, W, Q, s, a, l, q, k⟩ => ⟨env, M, W, _, s, a, l, q, fun ds vs H1 M1 t1 a1 r1 q1 => by
    split at q1
    · obtain ⟨v, rfl, rr⟩ := one_inv r1
      obtain ⟨p, ws, rfl, hs, hv⟩ := rr.tup_inv
      exact ⟨p, ws, rfl, hs, k _ _ _ H1 M1 t1 a1 q1 (itok_enumT hs hv)⟩
    · exact q1.elim⟩
end
end L3

namespace L3
open PySem PySem.Spec PyProof.Rows L2
section
variable {X : Cx} {e e2 a b c o : Expr} {es : List Expr} {pos p : Pos} {t ta tb tc to te : E3} {u : A3} {K : Fg}
/-! ### zip of two tuples -/
def IzD (K : Fg) (a b : Addr) : It :=
  ⟨fun i H => ∃ (xs ys : List V) (x y : V), SqT K H a xs ∧ SqT K H b ys ∧ xs[i]? = some x ∧ ys[i]? = some y,
   fun i H v H' => ∃ T x y ob, v = .ref T ∧ H T = none ∧ ob.dict = none ∧ H' = upd H T (.frz ob (.tup [x, y])) ∧ (∀ xs, SqT K H a xs → xs[i]? = some x) ∧ ∀ ys, SqT K H b ys → ys[i]? = some y,
   fun i H => ∃ xs ys : List V, SqT K H a xs ∧ SqT K H b ys ∧ (xs.length ≤ i ∨ ys.length ≤ i)⟩
theorem turn_zipD {P : Program} {w : World} {K : Fg} {elts : List Expr} {kk : Nat} {tpos : Pos} {a b z TI TO i1 i2 : Addr} (D : ZipApart z TI TO i1 i2 a b) :
    Turn P w K (.Tuple elts kk tpos) (IzD K a b) [z, TI, TO, i1, i2] z (fun i h => IsZip h z TI TO .none ∧ IsPair h TI (.ref i1) (.ref i2) ∧ (∃ x y, IsPair h TO x y) ∧ h.IsTupleIter i1 a i ∧ h.IsTupleIter i2 b i) where
  mem := List.mem_cons_self
  obj := (RZ.turn_zipT (K := K) (P := P) (w := w) (elts := elts) (kk := kk) (tpos := tpos) D).obj
  keep := (RZ.turn_zipT (K := K) (P := P) (w := w) (elts := elts) (kk := kk) (tpos := tpos) D).keep
  done := fun X hP hw hK hc i pins s σ H E I hf st hg => (RZ.turn_zipT (K := K) (P := P) (w := w) (elts := elts) (kk := kk) (tpos := tpos) D).done X hP hw hK hc i pins s σ H E I hf st hg
  self := (RZ.turn_zipT (K := K) (P := P) (w := w) (elts := elts) (kk := kk) (tpos := tpos) D).self
  item := by
    rintro X rfl rfl rfl hc i pins s σ H E I hf ⟨hz, hTI, ⟨x0, y0, hTO⟩, h1, h2⟩ ⟨xs, ys, x, y, hqx, hqy, hx, hy⟩
    obtain ⟨its, rv, p, _⟩ := I.tuple hqx
    obtain ⟨its2, rv2, p2, _⟩ := I.tuple hqy
    obtain ⟨v, hv, rx⟩ := rv.get hx
    obtain ⟨v2, hv2, ry⟩ := rv2.get hy
    have small : ∀ c ∈ [z, TI, TO, i1, i2], c < s.heap.objs.size := fun c hcm => by
      obtain ⟨ob, hob, _⟩ := (RZ.turn_zipT (K := X.K) (P := X.prog) (w := X.w) (elts := elts) (kk := kk) (tpos := tpos) D).obj i s.heap ⟨hz, hTI, ⟨x0, y0, hTO⟩, h1, h2⟩ c hcm
      exact Heap.lt_size hob
    refine RZ.pyNext_zipT_item D hz hTI hTO h1 h2 p p2 (x := v) (y := v2) (by simpa using hv) (by simpa using hv2) fun h3 z3 TO3 h13 h23 hT hsz hk => ?_
    refine ⟨_, rfl, wpAny_letOwnedTupleGo_zip (s := { s with heap := h3 }) z3 fun h4 z4 sb => ?_⟩
    have hT2 : IsPair h4 s.heap.objs.size v v2 := (sb.2 _ (Nat.ne_of_gt (small z (by simp)))).trans hT
    have kept : ∀ (c : Addr) (ob : Obj), c ∉ [z, TI, TO, i1, i2] → s.heap.get? c = some ob → h4.get? c = some ob := fun c ob hb q =>
      (sb.2 c (fun q' => hb (by simp [q']))).trans (hk c ob (fun q' => hb (by simp [q'])) (fun q' => hb (by simp [q'])) (fun q' => hb (by simp [q'])) (fun q' => hb (by simp [q'])) q)
    have I1 : Inv X pins σ (upd H s.heap.objs.size (.frz { cls := .type "tuple", data := .seq #[v, v2] } (.tup [x, y]))) { s with heap := h4 } :=
      I.turnedNew (t' := s.toks) (ch := [z, TI, TO, i1, i2]) kept hf (Nat.le_refl _) ⟨hT2, by show 2 ≤ sizeLine; decide, [v, v2], .cons rx (.cons ry .nil), ⟨_, hT2, rfl, _, rfl⟩⟩
    refine ⟨.ref s.heap.objs.size, _, I1, rfl, ⟨_, x, y, _, rfl, I.hok.fresh (Nat.le_refl _), rfl, rfl, fun l hl => by rw [I.tuple_inj hl hqx]; exact hx, fun l hl => by rw [I.tuple_inj hl hqy]; exact hy⟩,
      ⟨z4, (sb.2 _ D.TIz).trans (hk _ _ D.TIz D.TITO D.TIi1 D.TIi2 hTI), ⟨v, v2, (sb.2 _ D.TOz).trans TO3⟩, h13.at fun ob q => (sb.2 _ D.i1z).trans q, h23.at fun ob q => (sb.2 _ D.i2z).trans q⟩, fun c hcm => ?_⟩
    rw [upd_ne (Nat.ne_of_lt (small c hcm))]
    exact (hf c hcm).1
def iZipD (K : Fg) (ta : TA) : TI := fun σ H R => ta σ H fun vs H1 => ∃ a b xs ys, vs = [.ref a, .ref b] ∧ SqT K H1 a xs ∧ SqT K H1 b ys ∧ R (IzD K a b) H1
theorem pi_zipD {ta : TA} {tpos : Pos} {elts : List Expr} {kk : Nat} (hg : Gl X "zip") (hm : X.mg "zip" = none) (ha : PA X [e, e2] ta) (hs : starEach [e, e2] X.env = (false, eval e X.env) :: starEach [e2] X.env) (hpl : (backTo pos (starEach [e2] X.env)).any (·.1) = false) :
    PI X (.Tuple elts kk tpos) (.Call (.Name "zip" p) [e, e2] [] pos) (iZipD X.K ta) :=
  ⟨fun pins s σ H R I h => Call_ (ld_blt I hg hm PyProof.Rows.boot_zip (PyProof.Rows.callWith_type1 (thn (ha.run pos pins s σ H _ I h) fun us s1 ⟨vs, H1, I1, r1, a, b, xs, ys, ex, hqx, hqy, q⟩ => by
    subst ex
    obtain ⟨v, v2, rfl, rv, rv2⟩ := vals2 r1
    cases rv
    cases rv2
    obtain ⟨its, rt, p1, _⟩ := I1.tuple hqx
    obtain ⟨its2, rt2, p2, _⟩ := I1.tuple hqy
    have l1 : a < s1.heap.objs.size := by obtain ⟨ob, ho, _⟩ := p1; exact Heap.lt_size ho
    have l2 : b < s1.heap.objs.size := by obtain ⟨ob, ho, _⟩ := p2; exact Heap.lt_size ho
    refine RZ.call_zipT (show s1.heap.IsTuple a its.toArray from p1) (show s1.heap.IsTuple b its2.toArray from p2) fun h' hz hTI hTO h1 h2 hsz hk => wpAny_pyIter_zip hz ?_
    refine ⟨s1.heap.objs.size + 4, [s1.heap.objs.size + 4, s1.heap.objs.size + 2, s1.heap.objs.size + 3, s1.heap.objs.size, s1.heap.objs.size + 1], _, _, H1, rfl, I1.kept (t' := s1.toks) hk, turn_zipD (PySem.W.ktu_apart s1.heap.objs.size a b l1 l2), ⟨hz, hTI, ⟨_, _, hTO⟩, h1, h2⟩, fun c hcm => ?_, q⟩
    have hle : s1.heap.objs.size ≤ c := by
      simp only [List.mem_cons, List.not_mem_nil, or_false] at hcm
      rcases hcm with rfl | rfl | rfl | rfl | rfl <;> first | exact Nat.le_add_right _ _ | exact Nat.le_refl _
    exact I1.fpOk hle (I1.hok.fresh hle)) hs hpl))⟩
def zipD : List D → List D → List D
  | x :: xs, y :: ys => .tup [x, y] :: zipD xs ys
  | _, _ => []
theorem zipD_length : ∀ {xs ys : List D}, (zipD xs ys).length = min xs.length ys.length
  | [], ys => by simp [zipD]
  | x :: xs, [] => by simp [zipD]
  | x :: xs, y :: ys => by rw [zipD, List.length_cons, zipD_length, List.length_cons, List.length_cons]; omega
theorem zipD_get : ∀ {xs ys : List D} {i : Nat} {d : D}, (zipD xs ys)[i]? = some d → ∃ x y, xs[i]? = some x ∧ ys[i]? = some y ∧ d = .tup [x, y]
  | [], ys, i, d, h => by simp [zipD] at h
  | x :: xs, [], i, d, h => by simp [zipD] at h
  | x :: xs, y :: ys, 0, d, h => by simp [zipD] at h; exact ⟨x, y, rfl, rfl, h.symm⟩
  | x :: xs, y :: ys, i + 1, d, h => zipD_get (xs := xs) (ys := ys) (i := i) (by simpa [zipD] using h)
theorem itok_zipD {H : Hp} {p q : Addr} {ds es : List D} {vs ws : List V} (hs : SqT K H p vs) (hv : Rvs K H ds vs) (hs2 : SqT K H q ws) (hv2 : Rvs K H es ws) : ItOk K H (zipD ds es) True3 (IzD K p q) where
  step := fun i d H' M' hd t a _ => by
    obtain ⟨x, y, hx, hy, rfl⟩ := zipD_get hd
    obtain ⟨v, h1, r1⟩ := hv.get hx
    obtain ⟨v2, h2, r2⟩ := hv2.get hy
    refine ⟨⟨vs, ws, v, v2, t.seq hs, t.seq hs2, h1, h2⟩, ?_⟩
    rintro z H2 ⟨T, z1, z2, ob, rfl, nT, dT, rfl, k1, k2⟩
    have e1 := k1 vs (t.seq hs)
    have e2 := k2 ws (t.seq hs2)
    rw [h1] at e1
    rw [h2] at e2
    cases e1
    cases e2
    exact ⟨Tps.new nT, a.tupN nT, Rv.tup (SqD.of dT) (Rvs.cons ((r1.mono t).mono (Tps.new nT)) (Rvs.cons ((r2.mono t).mono (Tps.new nT)) Rvs.nil))⟩
  stop := fun H' M' t a _ => ⟨vs, ws, t.seq hs, t.seq hs2, by
    rw [zipD_length, ← hv.length, ← hv2.length]
    omega⟩
def i3Zip (u : A3) : I3 := fun W env M Q => u W env M fun ds M1 => match ds with
  | [.tup xs, .tup ys] => Q (zipD xs ys) True3 M1
  | _ => False
theorem di_zip {elts : List Expr} {kk : Nat} {tpos : Pos} (hm : X.mg "zip" = none) (ha : DA X [e, e2] u) (hg : Gl X "zip" := by rfl) (hs : starEach [e, e2] X.env = (false, eval e X.env) :: starEach [e2] X.env := by rfl) (hpl : (backTo pos (starEach [e2] X.env)).any (·.1) = false := by rfl) :
    DI X (.Tuple elts kk tpos) (.Call (.Name "zip" p) [e, e2] [] pos) (i3Zip u) := fun W2 tk =>
  (pi_zipD hg hm (ha W2 tk) hs hpl).imp fun σ H R ⟨env, M, W, Q, s, a, l, q, k⟩ => ⟨env, M, W, _, s, a, l, q, fun ds vs H1 M1 t1 a1 r1 q1 => by
    split at q1
    · obtain ⟨v, v2, rfl, ra, rb⟩ := two_inv r1
      obtain ⟨p, ws, rfl, hs, hv⟩ := ra.tup_inv
      obtain ⟨p2, ws2, rfl, hs2, hv2⟩ := rb.tup_inv
      exact ⟨p, p2, ws, ws2, rfl, hs, hs2, k _ _ _ H1 M1 t1 a1 q1 (itok_zipD hs hv hs2 hv2)⟩
    · exact q1.elim⟩
/-! ### sorted(ints), max, min -/
def c3Sorted : List D → MH → Q3 → Prop
  | [.ref l], M, Q => ∃ ns : List Int, LstM M l (ns.map D.int) ∧ ∀ (ms : List Int) (q : Addr), ms.Perm ns → ms.Pairwise (· ≤ ·) → M q = none → Q (.ref q) (updM M q (.lst (ms.map D.int)))
  | _, _, _ => False
theorem cl_sorted : CallL K (rSortedI K) c3Sorted := by
  intro ds vs H M Q Q2 r a q g
  unfold c3Sorted at q
  split at q
  · obtain ⟨v, rfl, rr⟩ := one_inv r
    cases rr.ref_inv
    obtain ⟨ns, hl, q⟩ := q
    obtain ⟨ws, hs, hw⟩ := a.rd hl
    rw [Rvs.intsV hw] at hs
    exact ⟨_, ns, rfl, hs, fun ms q' hp hs' nq => g _ _ _ _ (Tps.new nq) (a.lstN nq Rvs.ints) Rv.ref (q ms q' hp hs' (a.fresh nq))⟩
  · exact q.elim
theorem d_sorted (hm : X.mg "sorted" = none) (ha : DA X [e] u) (hg : Gl X "sorted" := by rfl) (he : starEach (e :: []) X.env = (false, eval e X.env) :: starEach [] X.env := by rfl) (hpl : (backTo pos (starEach [] X.env)).any (·.1) = false := by rfl) : DE X (.Call (.Name "sorted" p) [e] [] pos) (e3CB c3Sorted u) :=
  d_cb cr_sortedI cl_sorted hg hm boot_sorted' ha (by decide) (by decide) he hpl
def c3Max : List D → MH → Q3 → Prop
  | [.int i, .int j], M, Q => Q (.int (if j > i then j else i)) M
  | _, _, _ => False
def c3Min : List D → MH → Q3 → Prop
  | [.int i, .int j], M, Q => Q (.int (if j < i then j else i)) M
  | _, _, _ => False
theorem cl_max2 : CallL K (fun xs H Q => ∃ i j, xs = [.int i, .int j] ∧ Q (.int (if j > i then j else i)) H) c3Max := by
  intro ds vs H M Q Q2 r a q g
  unfold c3Max at q
  split at q
  · obtain ⟨v, w, rfl, r1, r2⟩ := two_inv r
    cases r1.int_inv
    cases r2.int_inv
    exact ⟨_, _, rfl, g _ _ H M (Tps.refl H) a Rv.int q⟩
  · exact q.elim
theorem cl_min2 : CallL K (fun xs H Q => ∃ i j, xs = [.int i, .int j] ∧ Q (.int (if j < i then j else i)) H) c3Min := by
  intro ds vs H M Q Q2 r a q g
  unfold c3Min at q
  split at q
  · obtain ⟨v, w, rfl, r1, r2⟩ := two_inv r
    cases r1.int_inv
    cases r2.int_inv
    exact ⟨_, _, rfl, g _ _ H M (Tps.refl H) a Rv.int q⟩
  · exact q.elim
theorem boot_max' : bootBuiltins "max" = some (.builtin "max") := by decide +kernel
theorem boot_min' : bootBuiltins "min" = some (.builtin "min") := by decide +kernel
theorem d_max (hc : X.calm = true) (hm : X.mg "max" = none) (ha : DA X (e :: es) u) (hg : Gl X "max" := by rfl) (he : starEach (e :: es) X.env = (false, eval e X.env) :: starEach es X.env := by rfl) (hpl : (backTo pos (starEach es X.env)).any (·.1) = false := by rfl) : DE X (.Call (.Name "max" p) (e :: es) [] pos) (e3CB c3Max u) :=
  d_cb (call_max2 hc) cl_max2 hg hm boot_max' ha (by decide) (by decide) he hpl
theorem d_min (hc : X.calm = true) (hm : X.mg "min" = none) (ha : DA X (e :: es) u) (hg : Gl X "min" := by rfl) (he : starEach (e :: es) X.env = (false, eval e X.env) :: starEach es X.env := by rfl) (hpl : (backTo pos (starEach es X.env)).any (·.1) = false := by rfl) : DE X (.Call (.Name "min" p) (e :: es) [] pos) (e3CB c3Min u) :=
  d_cb (call_min2 hc) cl_min2 hg hm boot_min' ha (by decide) (by decide) he hpl
/-! ### isinstance(x, (types)) -/
def rIsiD (K : Fg) : List V → Hp → VK → Prop := fun xs H Q => ∃ (x : V) (tp : Addr) (cs : List V) (t : Value) (us : List Value) (b : Bool), xs = [x, .ref tp] ∧ SqT K H tp cs ∧ Paired ClsV cs us ∧ TyX K H x t ∧ PySem.W.kitAny K t us = some b ∧ Q (.bl b) H
theorem call_isiD : CallR X (.builtin "isinstance") (rIsiD X.K) := by
  rintro pins s σ H xs us Q I r ⟨x, tp, cs, t, ws, b, rfl, hT, k, ty, e, q⟩
  obtain ⟨u1, u2, rfl, r1, r2⟩ := vals2 r
  cases (show u2 = Value.ref tp from r2)
  obtain ⟨P, Z, pz, hx⟩ := kit_of I r1 ty
  obtain ⟨its, rv, ⟨⟨oc, od, dt, sl⟩, h1, h2, n, h3⟩, _⟩ := I.tuple hT
  cases ClsV.all k rv
  simp only at h2 h3
  subst h2 h3
  exact PySem.W.kia_tup Z I.kIn pz h1 e hx fun tk => ⟨.bl b, H, I.tok tk, rfl, q⟩
def anyKit (m : String) : List String → Option Bool
  | [] => some false
  | n :: ns => match kitB m n with
    | some true => some true
    | some false => anyKit m ns
    | none => none
theorem anyKit_ok {m : String} : ∀ {ns : List String} {b : Bool}, anyKit m ns = some b → PySem.W.kitAny K (.type m) (ns.map Value.type) = some b
  | [], b, h => h
  | n :: ns, b, h => by
    unfold anyKit at h
    split at h
    · rename_i h1
      cases h
      exact kitAny_cons (kit_ty h1) (fun z => nomatch z) fun _ => rfl
    · rename_i h1
      exact kitAny_cons (kit_ty h1) (fun _ => anyKit_ok h) fun z => nomatch z
    · cases h
@[irreducible] def c3IsiT : List D → MH → Q3 → Prop := fun ds M Q => ∃ d ns m b, ds = [d, .tup (List.map D.ty ns)] ∧ tyD M d m ∧ anyKit m ns = some b ∧ Q (.bl b) M
theorem isi_tups {M : MH} {Q : Q3} {d : D} {ns : List String} {m : String} {b : Bool} (h : tyD M d m) (k : anyKit m ns = some b) (q : Q (.bl b) M) : c3IsiT [d, .tup (ns.map D.ty)] M Q := by
  unfold c3IsiT
  exact ⟨d, ns, m, b, rfl, h, k, q⟩
theorem tys_rv {H : Hp} : ∀ {ns : List String} {vs : List V}, Rvs K H (ns.map D.ty) vs → Paired ClsV vs (ns.map Value.type)
  | [], _, h => by cases h.nil_inv; exact .nil
  | n :: ns, _, h => by
    obtain ⟨v, r, rfl, h1, h2⟩ := Rvs.cons_inv (d := .ty n) (ds := ns.map D.ty) h
    cases h1.ty_inv
    exact .cons (.ty n) (tys_rv h2)
theorem cl_isiT : CallL K (rIsiD K) c3IsiT := by
  intro ds vs H M Q Q2 r a q g
  unfold c3IsiT at q
  obtain ⟨d, ns, m, b, rfl, h1, h2, q⟩ := q
  obtain ⟨v, w, rfl, r1, r2⟩ := two_inv r
  obtain ⟨tp, cs, rfl, hs, hv⟩ := r2.tup_inv
  exact ⟨v, tp, cs, _, ns.map Value.type, b, rfl, hs, tys_rv hv, tyD_ok a r1 h1, anyKit_ok h2, g _ _ H M (Tps.refl H) a Rv.bl q⟩
theorem d_isiT (hm : X.mg "isinstance" = none) (ha : DA X [e, e2] u) (hg : Gl X "isinstance" := by rfl) (he : starEach (e :: [e2]) X.env = (false, eval e X.env) :: starEach [e2] X.env := by rfl) (hpl : (backTo pos (starEach [e2] X.env)).any (·.1) = false := by rfl) : DE X (.Call (.Name "isinstance" p) [e, e2] [] pos) (e3CB c3IsiT u) :=
  d_cb call_isiD cl_isiT hg hm boot_isinstance' ha (by decide) (by decide) he hpl
end
end L3

namespace L3
open PySem PySem.Spec PyProof.Rows L2
section
variable {X : Cx} {e e2 a b c o : Expr} {es : List Expr} {pos p : Pos} {t ta tb tc to te : E3} {u : A3} {K : Fg}
/-! ### list(range), tuple(range) -/
theorem rg_rvs {H : Hp} {i j : Int} : Rvs K H (rngD i (j - i).toNat) (rgV i j) := by
  have e1 : rngD i (j - i).toNat = ((List.range (j - i).toNat).map fun k : Nat => i + (k : Int)).map D.int := by unfold rngD; rw [List.map_map]; rfl
  have e2 : rgV i j = ((List.range (j - i).toNat).map fun k : Nat => i + (k : Int)).map V.int := by unfold rgV; rw [List.map_map]; rfl
  rw [e1, e2]
  exact Rvs.ints
def tTupRgD (te : L2.St → Hp → (Int → Int → Hp → Prop) → Prop) : TE := fun σ H Q => te σ H fun a b H1 => RgOk a b ∧ NewT (rgV a b) H1 Q
theorem pe_tupRgD {te : L2.St → Hp → (Int → Int → Hp → Prop) → Prop} (hc : X.calm = true) (hg : Gl X "tuple") (hm : X.mg "tuple" = none) (he : PRg X e te) (na : starEach [e] X.env = (false, eval e X.env) :: starEach [] X.env) : PE X (.Call (.Name "tuple" p) [e] [] pos) (tTupRgD te) :=
  ⟨fun pins s σ H Q I h => Call_ (ld_blt I hg hm boot_tuple (PyProof.Rows.callWith_type1 (args_cons (thn (he pins s σ H _ I h) fun x s1 ⟨r, i, j, t, u, v, H1, ex, hr, I1, ⟨b1, b2, b3, b4, b5⟩, q⟩ => args_nil (by
    subst ex
    refine call_tuple_range (n := (j - i).toNat) (I1.ok.hd hc) hr (small_one b1 b2 b3 b4) (rangeSize_nat i j) b5 fun h' tk acc hk hi => ?_
    have big : (rgV i j).length ≤ sizeLine := by rw [rgV_length, sizeLine_eq]; omega
    have z := tup_pushed (I1.kept (t' := tk) hk) (vals_rg hi) big q
    simpa only [Array.toArray_toList] using z)) na) na))⟩
def e3LstRg1 (t : E3) : E3 := fun W env M Q => t W env M fun d M1 => match d with
  | .int n => RgOk 0 n ∧ ∀ p, M1 p = none → Q (.ref p) (updM M1 p (.lst (rngD 0 n.toNat)))
  | _ => False
def e3TupRg1 (t : E3) : E3 := fun W env M Q => t W env M fun d M1 => match d with
  | .int n => RgOk 0 n ∧ Q (.tup (rngD 0 n.toNat)) M1
  | _ => False
theorem rng0 {n : Int} : rngD 0 n.toNat = rngD 0 (n - 0).toNat := by rw [Int.sub_zero]
theorem d_listRg1 (hc : X.calm = true) (hl : X.mg "list" = none) (hm : X.mg "range" = none) (ha : DE X a ta) (hg : Gl X "list" := by rfl) (hgr : Gl X "range" := by rfl) (na : starEach [a] X.env = (false, eval a X.env) :: starEach [] X.env := by rfl) {p2 pos2 : Pos}
    (ne : starEach [Expr.Call (.Name "range" p2) [a] [] pos2] X.env = (false, eval (Expr.Call (.Name "range" p2) [a] [] pos2) X.env) :: starEach [] X.env := by rfl) : DE X (.Call (.Name "list" p) [.Call (.Name "range" p2) [a] [] pos2] [] pos) (e3LstRg1 ta) := fun W2 tk =>
  (pe_listRg hc hg hl (prg_1 hgr hm (ha W2 tk) na) ne).imp fun σ H Q2 ⟨env, M, W, Q, s, a, l, q, g⟩ => ⟨env, M, W, _, s, a, l, q, fun d v H1 M1 t1 a1 r1 q1 => by
    split at q1
    · cases r1.int_inv
      exact ⟨_, rfl, q1.1, fun w nw => g _ _ _ _ (t1.trans (Tps.new nw)) (a1.lstN nw (by rw [rng0]; exact rg_rvs)) Rv.ref (q1.2 w (a1.fresh nw))⟩
    · exact q1.elim⟩
theorem d_tupleRg1 (hc : X.calm = true) (hl : X.mg "tuple" = none) (hm : X.mg "range" = none) (ha : DE X a ta) (hg : Gl X "tuple" := by rfl) (hgr : Gl X "range" := by rfl) (na : starEach [a] X.env = (false, eval a X.env) :: starEach [] X.env := by rfl) {p2 pos2 : Pos}
    (ne : starEach [Expr.Call (.Name "range" p2) [a] [] pos2] X.env = (false, eval (Expr.Call (.Name "range" p2) [a] [] pos2) X.env) :: starEach [] X.env := by rfl) : DE X (.Call (.Name "tuple" p) [.Call (.Name "range" p2) [a] [] pos2] [] pos) (e3TupRg1 ta) := fun W2 tk =>
  (pe_tupRgD hc hg hl (prg_1 hgr hm (ha W2 tk) na) ne).imp fun σ H Q2 ⟨env, M, W, Q, s, a, l, q, g⟩ => ⟨env, M, W, _, s, a, l, q, fun d v H1 M1 t1 a1 r1 q1 => by
    split at q1
    · cases r1.int_inv
      exact ⟨_, rfl, q1.1, fun w ow nw dw => g _ _ _ M1 (t1.trans (Tps.new nw)) (a1.tupN nw) (Rv.tup (SqD.of dw) (by rw [rng0]; exact rg_rvs)) q1.2⟩
    · exact q1.elim⟩
/-! ### l.pop(), l.pop(i) -/
theorem Rvs.erase {H : Hp} : ∀ {ds : List D} {vs : List V} (k : Nat), Rvs K H ds vs → Rvs K H (ds.eraseIdx k) (vs.eraseIdx k)
  | [], vs, k, h => by cases h.nil_inv; exact Rvs.nil
  | d :: ds, vs, k, h => by
    obtain ⟨v, r, rfl, h1, h2⟩ := h.cons_inv
    cases k with
    | zero => exact h2
    | succ k => exact Rvs.cons h1 (Rvs.erase k h2)
theorem Rvs.butLast {H : Hp} {ds : List D} {vs : List V} (h : Rvs K H ds vs) : Rvs K H ds.dropLast vs.dropLast := by
  rw [List.dropLast_eq_take, List.dropLast_eq_take, h.length]
  exact h.take _
def e3Bm0 (m : Addr → MH → Q3 → Prop) (to : E3) : E3 := fun W env M Q => to W env M fun od M1 => match od with
  | .ref l => (∃ ds, LstM M1 l ds) ∧ m l M1 Q
  | _ => False
def MtL0 (K : Fg) (r : V → List V → Hp → VK → Prop) (m : Addr → MH → Q3 → Prop) : Prop := ∀ l H M Q Q2, Abs K M H → m l M Q → Got K H Q Q2 → r (.ref l) [] H Q2
theorem d_bm0 {name : Str} {id : String} {r : V → List V → Hp → VK → Prop} {m : Addr → MH → Q3 → Prop} {apos cpos : Pos} (slot : Slot "list" name id) (hty : typeOf (.builtin id) = pure (.type "method_descriptor")) (hm : MtR X id r) (hl : MtL0 X.K r m) (ho : DE X o to)
    (hbase : attributeBase o name X.env (eval o X.env) = eval o X.env) (hline : (apos.endLine == cpos.line) = true) : DE X (.Call (.Attribute o name apos) [] [] cpos) (e3Bm0 m to) := fun W2 tk =>
  (pe_bm0 PySem.F.plainAttrs_list slot hty hm (ho W2 tk) hbase hline).imp fun σ H Q2 ⟨env, M, W, Q, s, a, l, q, g⟩ => by
    refine ⟨env, M, W, _, s, a, l, q, fun od v H1 M1 t1 a1 r1 q1 => ?_⟩
    split at q1
    · obtain ⟨⟨ds, hl'⟩, q1⟩ := q1
      cases r1.ref_inv
      obtain ⟨vs, hs, _⟩ := a1.rd hl'
      exact ⟨.inl ⟨rfl, vs, hs⟩, hl _ H1 M1 Q Q2 a1 q1 (g.mono t1)⟩
    · exact q1.elim
def m3Pop (l : Addr) (M : MH) (Q : Q3) : Prop := ∃ ds d, M l = some (.lst ds) ∧ ds[ds.length - 1]? = some d ∧ Q d (updM M l (.lst ds.dropLast))
theorem ml_pop : MtL0 K rPop m3Pop := by
  rintro l H M Q Q2 a ⟨ds, d, h1, h2, q⟩ g
  obtain ⟨vs, hv, r⟩ := a.lst h1
  obtain ⟨v, hg, rd⟩ := r.get h2
  exact ⟨l, vs, v, rfl, rfl, hv, by rw [← r.length]; exact hg, g _ _ _ _ (Tps.lst hv) (a.lstU hv r.butLast) (rd.mono (Tps.lst hv)) q⟩
theorem d_pop {apos cpos : Pos} (ho : DE X o to) (hbase : attributeBase o "pop" X.env (eval o X.env) = eval o X.env := by rfl) (hline : (apos.endLine == cpos.line) = true := by rfl) : DE X (.Call (.Attribute o "pop" apos) [] [] cpos) (e3Bm0 m3Pop to) :=
  d_bm0 PySem.F.slot_list_pop PySem.F.type_list_pop mt_pop ml_pop ho hbase hline
def m3PopAt (l : Addr) : List D → MH → Q3 → Prop
  | [.int i], M, Q => ∃ ds d k, M l = some (.lst ds) ∧ -(2 ^ 63) ≤ i ∧ i < 2 ^ 63 ∧ ixN ds.length i = some k ∧ ds[k]? = some d ∧ Q d (updM M l (.lst (ds.eraseIdx k)))
  | _, _, _ => False
theorem ml_popAt : MtL K rPopAt m3PopAt := by
  intro l xs vs H M Q Q2 r a q g
  unfold m3PopAt at q
  split at q
  · obtain ⟨ds, d, k, h1, b1, b2, hk, h2, q⟩ := q
    obtain ⟨v, rfl, rr⟩ := one_inv r
    cases rr.int_inv
    obtain ⟨ws, hv, rw'⟩ := a.lst h1
    obtain ⟨w, hg, rd⟩ := rw'.get h2
    exact ⟨l, ws, _, k, w, rfl, rfl, hv, b1, b2, by rw [← rw'.length]; exact (ixN_seq hk).1, hg, g _ _ _ _ (Tps.lst hv) (a.lstU hv (rw'.erase k)) (rd.mono (Tps.lst hv)) q⟩
  · exact q.elim
theorem d_popAt {apos cpos : Pos} (ho : DE X o to) (ha : DA X [e] u) (hbase : attributeBase o "pop" X.env (eval o X.env) = eval o X.env := by rfl)
    (hfew : ((backTo cpos (starEach (e :: []) X.env)).all (fun x => !x.1) && (backToKw cpos (keywordEach [] X.env)).all (fun x => x.1.isSome)
      && decide ((e :: []).length + ([] : List Keyword).length + (if ([] : List Keyword).isEmpty then 0 else 1) < 30)) = true := by rfl)
    (hline : (apos.endLine == cpos.line) = true := by rfl) (hs : starEach (e :: []) X.env = (false, eval e X.env) :: starEach [] X.env := by rfl) (hplain : (backTo cpos (starEach [] X.env)).any (·.1) = false := by rfl) :
    DE X (.Call (.Attribute o "pop" apos) [e] [] cpos) (e3Bm m3PopAt to u) := d_bm PySem.F.slot_list_pop PySem.F.type_list_pop mt_popAt ml_popAt ho ha hbase hfew hline hs hplain
/-! ### comprehensions of two fors -/
/-- the inner loop -/
def LoopI (ds : List D) (keep : MH → Prop) (j : Nat) (tt : T3) (te : E3) (env : En) (p : Addr) (M : MH) (done : List D → MH → Prop) : Prop := ∃ Iv : Nat → List D → MH → Prop, (∃ acc, M p = some (.lst acc) ∧ Iv 0 acc M) ∧
  (∀ k d acc M', ds[k]? = some d → Iv k acc M' → M' p = some (.lst acc) → keep M' ∧ tt W0 (env.set j (some d)) M' fun b M3 => Br b
    (te W0 (env.set j (some d)) M3 fun y M4 => ∃ acc', M4 p = some (.lst acc') ∧ acc'.length < sizeLine ∧ Iv (k + 1) (acc' ++ [y]) (updM M4 p (.lst (acc' ++ [y]))))
    (∃ acc', M3 p = some (.lst acc') ∧ Iv (k + 1) acc' M3)) ∧
  ∀ acc M', Iv ds.length acc M' → M' p = some (.lst acc) → keep M' ∧ done acc M'
def Loop2 (ds : List D) (keep : MH → Prop) (i : Nat) (tt : T3) (ti1 : I3) (j : Nat) (tt1 : T3) (te : E3) (vs1 : List Nat) (env : En) (p : Addr) (M : MH) (Q : MH → Prop) : Prop := ∃ Iv : Nat → List D → MH → Prop, Iv 0 [] (updM M p (.lst [])) ∧
  (∀ k d acc M', ds[k]? = some d → Iv k acc M' → M' p = some (.lst acc) → keep M' ∧ tt W0 (env.set i (some d)) M' fun b M3 => Br b
    (ti1 W0 (env.set i (some d)) M3 fun ds1 keep1 M4 => LoopI ds1 keep1 j tt1 te (wipe3 (env.set i (some d)) vs1) p M4 (Iv (k + 1)))
    (∃ acc', M3 p = some (.lst acc') ∧ Iv (k + 1) acc' M3)) ∧
  ∀ acc M', Iv ds.length acc M' → M' p = some (.lst acc) → keep M' ∧ Q M'
def e3Lc2 (ti : I3) (i : Nat) (tt : T3) (ti1 : I3) (j : Nat) (tt1 : T3) (te : E3) (vs vs1 : List Nat) : E3 := fun W env M Q => ti W env M fun ds keep M1 => ∀ p, M1 p = none → Loop2 ds keep i tt ti1 j tt1 te vs1 (wipe3 env vs) p M1 fun M' => Q (.ref p) M'
theorem lc2_low {ti ti1 : I3} {i j : Nat} {tt tt1 : T3} {te : E3} {vs vs1 : List Nat} {W2 W2b : WX} (hv : i ∈ vs) (hv1 : j ∈ vs1) (hW : W2b = fun _ _ _ _ => False) {σ : L2.St} {H : Hp} {Q2 : VK} (h : lowE X.K W2 (e3Lc2 ti i tt ti1 j tt1 te vs vs1) σ H Q2) :
    tLc2 (lowI X.K W2 ti) (gName i) (lowT X.K W2b tt) (lowI X.K W2b ti1) (gName j) (lowT X.K W2b tt1) (lowE X.K W2b te) vs vs1 σ H Q2 := by
  subst hW
  obtain ⟨env, M, W, Q, s, a, l, q, g⟩ := h
  refine ⟨env, M, W, _, s, a, l, q, fun ds keep J H1 M1 t1 a1 q1 ok Dd nD => ?_⟩
  obtain ⟨Iv, h0, hst, hd⟩ := q1 Dd (a1.fresh nD)
  have sw := (s.mono t1).wipe vs
  refine ⟨fun k m H' => m = ds.length - k ∧ k ≤ ds.length ∧ ∃ acc M', Tps H1 H' ∧ Abs X.K M' H' ∧ Iv k acc M' ∧ M' Dd = some (.lst acc), ⟨ds.length, by simp, Nat.zero_le _, [], _, Tps.new nD, a1.lstN nD Rvs.nil, h0, updM_same⟩, ?_⟩
  rintro k m H' ⟨rfl, hk, acc, M', t2, a', iv, hD⟩
  by_cases hlt : k < ds.length
  · have hx : ds[k]? = some ds[k] := List.getElem?_eq_getElem hlt
    obtain ⟨hkeep, hg⟩ := hst k _ acc M' hx iv hD
    obtain ⟨go, yl⟩ := ok.step k _ H' M' hx t2 a' hkeep
    refine .inr ⟨go, fun H2 => ∃ acc M2, Tps H1 H2 ∧ Abs X.K M2 H2 ∧ Iv (k + 1) acc M2 ∧ M2 Dd = some (.lst acc), fun H2 hn => ⟨ds.length - (k + 1), by omega, rfl, hlt, hn⟩, fun x H2 y => ?_⟩
    obtain ⟨t3, a3, r3⟩ := yl x H2 y
    have t23 := t2.trans t3
    refine ⟨by rw [wipe_set hv, wipe_wipe fun _ h => h], ?_⟩
    have s2 : SE X.K H2 ((L2.wipe σ vs).set i (some x)) ((wipe3 env vs).set i (some ds[k])) := (sw.mono t23).set i r3
    refine ⟨_, M', W0, _, s2, a3, LW0, hg, fun b H3 M3 t4 a4 q4 => ?_⟩
    cases b with
    | false =>
      show if false = true then _ else _
      rw [if_neg Bool.false_ne_true]
      obtain ⟨acc', e1, iv'⟩ := q4.2 rfl
      exact ⟨acc', M3, t23.trans t4, a4, iv', e1⟩
    | true =>
      show if true = true then _ else _
      rw [if_pos rfl]
      refine ⟨_, M3, W0, _, s2.mono t4, a4, LW0, q4.1 rfl, fun ds1 keep1 J1 H4 M4 t5 a5 q5 ok1 => ?_⟩
      obtain ⟨Iv1, ⟨acc0, e0, i0⟩, hst1, hd1⟩ := q5
      have t45 := t4.trans t5
      have sw1 := (s2.mono t45).wipe vs1
      refine ⟨fun k1 m1 H' => m1 = ds1.length - k1 ∧ k1 ≤ ds1.length ∧ ∃ acc M', Tps H4 H' ∧ Abs X.K M' H' ∧ Iv1 k1 acc M' ∧ M' Dd = some (.lst acc), ⟨ds1.length, by simp, Nat.zero_le _, acc0, M4, Tps.refl _, a5, i0, e0⟩, ?_⟩
      rintro k1 m1 H5 ⟨rfl, hk1, acc1, M5, t6, a6, iv1, hD1⟩
      by_cases hlt1 : k1 < ds1.length
      · have hx1 : ds1[k1]? = some ds1[k1] := List.getElem?_eq_getElem hlt1
        obtain ⟨hkeep1, hg1⟩ := hst1 k1 _ acc1 M5 hx1 iv1 hD1
        obtain ⟨go1, yl1⟩ := ok1.step k1 _ H5 M5 hx1 t6 a6 hkeep1
        refine .inr ⟨go1, fun H2 => ∃ acc M2, Tps H4 H2 ∧ Abs X.K M2 H2 ∧ Iv1 (k1 + 1) acc M2 ∧ M2 Dd = some (.lst acc), fun H2 hn => ⟨ds1.length - (k1 + 1), by omega, rfl, hlt1, hn⟩, fun x1 H6 y1 => ?_⟩
        obtain ⟨t7, a7, r7⟩ := yl1 x1 H6 y1
        have t67 := t6.trans t7
        refine ⟨by rw [wipe_set hv1, wipe_wipe fun _ h => h], ?_⟩
        refine ⟨_, M5, W0, _, (sw1.mono t67).set j r7, a7, LW0, hg1, fun b H7 M7 t8 a8 q8 => ?_⟩
        cases b with
        | false =>
          show if false = true then _ else _
          rw [if_neg Bool.false_ne_true]
          obtain ⟨acc', e1, iv'⟩ := q8.2 rfl
          exact ⟨acc', M7, t67.trans t8, a8, iv', e1⟩
        | true =>
          show if true = true then _ else _
          rw [if_pos rfl]
          refine ⟨_, M7, W0, _, ((sw1.mono t67).set j r7).mono t8, a8, LW0, q8.1 rfl, fun d v H8 M8 t9 a9 r9 q9 => ?_⟩
          obtain ⟨acc', e1, hz, iv'⟩ := q9
          obtain ⟨ws, hw, rw'⟩ := a9.lst e1
          exact ⟨ws, hw, by rw [← rw'.length]; exact hz, acc' ++ [d], _, ((t67.trans t8).trans t9).trans (Tps.lst hw), a9.lstU hw (rw'.app (Rvs.cons r9 Rvs.nil)), iv', updM_same⟩
      · have e1 : k1 = ds1.length := by omega
        subst e1
        obtain ⟨hkeep1, hn⟩ := hd1 acc1 M5 iv1 hD1
        exact .inl ⟨ok1.stop H5 M5 t6 a6 hkeep1, acc1, M5, (t23.trans t45).trans t6, a6, hn, hD1⟩
  · have e : k = ds.length := by omega
    subst e
    obtain ⟨hkeep, hq⟩ := hd acc M' iv hD
    exact .inl ⟨ok.stop H' M' t2 a' hkeep, g _ _ H' M' (t1.trans t2) a' Rv.ref hq⟩
theorem d_lc2 {elt iter iter1 : Expr} {ifs ifs1 : List Expr} {scope : Scope} {x y : Str} {i j : Nat} {p1 p2 : Pos} {ti ti1 : I3} {tt tt1 : T3} {te : E3} (own : List (Str × Nat)) (hc : X.calm = true) (hN : X.N.Nodup) (hi : DI X (.Name x p1) iter ti) (ok : BlkOk X.N X.env.scope scope own) (hv : i ∈ own.map (·.2)) (hv1 : j ∈ own.map (·.2))
    (hg : ∀ (s : Shared) (H : Hp) (C : Addr) (cl : List (Str × Addr)) (fp : List Addr), PG (X.blk s H scope (compEnvC scope cl C X.env) fp) (.Name x p1) (gName i))
    (ht : ∀ (s : Shared) (H : Hp) (C : Addr) (cl : List (Str × Addr)) (fp : List Addr), DTs (X.blk s H scope (compEnvC scope cl C X.env) fp) ifs tt)
    (hi1 : ∀ (s : Shared) (H : Hp) (C : Addr) (cl : List (Str × Addr)) (fp : List Addr), DI (X.blk s H scope (compEnvC scope cl C X.env) fp) (.Name y p2) iter1 ti1)
    (hg1 : ∀ (s : Shared) (H : Hp) (C : Addr) (cl : List (Str × Addr)) (fp : List Addr), PG (X.blk s H scope (compEnvC scope cl C X.env) fp) (.Name y p2) (gName j))
    (ht1 : ∀ (s : Shared) (H : Hp) (C : Addr) (cl : List (Str × Addr)) (fp : List Addr), DTs (X.blk s H scope (compEnvC scope cl C X.env) fp) ifs1 tt1)
    (he : ∀ (s : Shared) (H : Hp) (C : Addr) (cl : List (Str × Addr)) (fp : List Addr), DE (X.blk s H scope (compEnvC scope cl C X.env) fp) elt te) (hs : ∀ x, foldedSetIterable iter X.env x = pure x := by intro _; rfl) (hs1 : ∀ env x, foldedSetIterable iter1 env x = pure x := by intro _ _; rfl) :
    DE X (.ListComp elt [⟨.Name x p1, iter, ifs, 0⟩, ⟨.Name y p2, iter1, ifs1, 0⟩] scope pos) (e3Lc2 ti i tt ti1 j tt1 te (own.map (·.2)) [j]) := fun W2 tk =>
  (pe_lc2 (vs1 := [j]) hc hN (hi W2 tk) ok (fun k hk => by rw [List.mem_singleton.mp hk]; exact hv1) hg (fun s H C cl fp => ht s H C cl fp _ takesF) (fun s H C cl fp => hi1 s H C cl fp _ takesF) hg1 (fun s H C cl fp => ht1 s H C cl fp _ takesF) (fun s H C cl fp => he s H C cl fp _ takesF) hs hs1).imp fun σ H Q2 h => lc2_low hv List.mem_cons_self rfl h
theorem ds_setLc2 {elt iter iter1 : Expr} {ifs ifs1 : List Expr} {scope : Scope} {x y z : Str} {i j k : Nat} {p1 p2 pz spos : Pos} {ti ti1 : I3} {tt tt1 : T3} {te : E3} (own : List (Str × Nat)) (hc : X.calm = true) (hN : X.N.Nodup) (hi : DI X (.Name x p1) iter ti) (ok : BlkOk X.N X.env.scope scope own) (hv : i ∈ own.map (·.2)) (hv1 : j ∈ own.map (·.2))
    (hg : ∀ (s : Shared) (H : Hp) (C : Addr) (cl : List (Str × Addr)) (fp : List Addr), PG (X.blk s H scope (compEnvC scope cl C X.env) fp) (.Name x p1) (gName i))
    (ht : ∀ (s : Shared) (H : Hp) (C : Addr) (cl : List (Str × Addr)) (fp : List Addr), DTs (X.blk s H scope (compEnvC scope cl C X.env) fp) ifs tt)
    (hi1 : ∀ (s : Shared) (H : Hp) (C : Addr) (cl : List (Str × Addr)) (fp : List Addr), DI (X.blk s H scope (compEnvC scope cl C X.env) fp) (.Name y p2) iter1 ti1)
    (hg1 : ∀ (s : Shared) (H : Hp) (C : Addr) (cl : List (Str × Addr)) (fp : List Addr), PG (X.blk s H scope (compEnvC scope cl C X.env) fp) (.Name y p2) (gName j))
    (ht1 : ∀ (s : Shared) (H : Hp) (C : Addr) (cl : List (Str × Addr)) (fp : List Addr), DTs (X.blk s H scope (compEnvC scope cl C X.env) fp) ifs1 tt1)
    (he : ∀ (s : Shared) (H : Hp) (C : Addr) (cl : List (Str × Addr)) (fp : List Addr), DE (X.blk s H scope (compEnvC scope cl C X.env) fp) elt te)
    (hy : X.N[k]? = some z := by rfl) (hyl : X.env.scope.names.lookup z = some .local := by rfl)
    (hsw : swapsWith (.ListComp elt [⟨.Name x p1, iter, ifs, 0⟩, ⟨.Name y p2, iter1, ifs1, 0⟩] scope pos) (some (.Name z pz)) spos.line X.env = pure true := by exact sw_true rfl rfl rfl (by decide +kernel))
    (hs : ∀ x, foldedSetIterable iter X.env x = pure x := by intro _; rfl) (hs1 : ∀ env x, foldedSetIterable iter1 env x = pure x := by intro _ _; rfl) :
    DS X (.Assign [.Name z pz] (.ListComp elt [⟨.Name x p1, iter, ifs, 0⟩, ⟨.Name y p2, iter1, ifs1, 0⟩] scope pos) spos) (s3Asg (e3Lc2 ti i tt ti1 j tt1 te (own.map (·.2)) [j]) k) := fun W2 tk hp =>
  (ps_setLc2 (vs1 := [j]) hc hN hy hyl hsw (hi W2 tk) ok (fun k hk => by rw [List.mem_singleton.mp hk]; exact hv1) hg (fun s H C cl fp => ht s H C cl fp _ takesF) (fun s H C cl fp => hi1 s H C cl fp _ takesF) hg1 (fun s H C cl fp => ht1 s H C cl fp _ takesF) (fun s H C cl fp => he s H C cl fp _ takesF) hs hs1).imp fun D2 σ H ⟨env, M, W, D3, s, a, l, q, le⟩ =>
    lc2_low (Q2 := fun x H1 => gName k x σ H1 D2.nx) hv List.mem_cons_self rfl ⟨env, M, W, _, s, a, l, q, fun d v H1 M1 t1 a1 r1 q1 => le.nx _ H1 _ M1 t1 ((s.mono t1).set k r1) a1 q1⟩
/-- pure items: one after the other -/
theorem lc2Map {ds : List D} {keep : MH → Prop} {i j : Nat} {ti1 : I3} {te : E3} {vs1 : List Nat} {env : En} {p : Addr} {M : MH} {Q : MH → Prop} (f : D → List D) (hp : M p = none) (hk : ∀ M', Sub M M' → keep M')
    (hz : ∀ k, ((ds.take k).flatMap f).length < sizeLine)
    (hi : ∀ (k : Nat) (d : D) (M' : MH) (R : List D → (MH → Prop) → MH → Prop), ds[k]? = some d → Sub M M' →
      (∀ (ds1 : List D) (g : D → D) (keep1 : MH → Prop), f d = ds1.map g → (∀ M'', Sub M M'' → keep1 M'') →
        (∀ (k1 : Nat) (d1 : D) (M'' : MH) (R : Q3), ds1[k1]? = some d1 → Sub M M'' → (∀ M3, Sub M'' M3 → R (g d1) M3) → te W0 ((wipe3 (env.set i (some d)) vs1).set j (some d1)) M'' R) → R ds1 keep1 M') → ti1 W0 (env.set i (some d)) M' R)
    (hq : ∀ M', Sub M M' → M' p = some (.lst (ds.flatMap f)) → Q M') : Loop2 ds keep i t3Yes ti1 j t3Yes te vs1 env p M Q := by
  refine ⟨fun k acc M' => acc = (ds.take k).flatMap f ∧ Sub M M', ⟨by simp, (Sub.refl M).new hp⟩, ?_, ?_⟩
  · rintro k d acc M' hd ⟨rfl, sub⟩ hpM
    refine ⟨hk M' sub, Br.tt (hi k d M' _ hd sub fun ds1 g keep1 hf hk1 hte => ?_)⟩
    have step : (ds.take (k + 1)).flatMap f = (ds.take k).flatMap f ++ ds1.map g := by
      rw [List.take_add_one, hd, Option.toList_some, List.flatMap_append, ← hf]
      simp
    refine ⟨fun k1 acc M'' => acc = (ds.take k).flatMap f ++ (ds1.take k1).map g ∧ Sub M M'', ⟨_, hpM, by simp, sub⟩, ?_, ?_⟩
    · rintro k1 d1 acc M'' hd1 ⟨rfl, sub2⟩ hpM2
      refine ⟨hk1 M'' sub2, Br.tt (hte k1 d1 M'' _ hd1 sub2 fun M3 s3 => ⟨_, s3 p _ hpM2, ?_, ?_, (sub2.trans s3).new hp⟩)⟩
      · have h1 := hz (k + 1)
        rw [step] at h1
        rw [List.length_append, List.length_map] at h1 ⊢
        have : (ds1.take k1).length ≤ ds1.length := by rw [List.length_take]; exact Nat.min_le_right _ _
        omega
      · rw [List.take_add_one, hd1, Option.toList_some, List.map_append, List.append_assoc]
        rfl
    · rintro acc M'' ⟨rfl, sub2⟩ hpM2
      refine ⟨hk1 M'' sub2, ?_, sub2⟩
      rw [List.take_length, step]
  · rintro acc M' ⟨rfl, sub⟩ hpM
    rw [List.take_length] at hpM
    exact ⟨hk M' sub, hq M' sub hpM⟩
/-! ### a comprehension over pairs -/
def LoopP (ds : List D) (keep : MH → Prop) (i j : Nat) (tt : T3) (te : E3) (env : En) (p : Addr) (M : MH) (Q : MH → Prop) : Prop := ∃ Iv : Nat → List D → MH → Prop, Iv 0 [] (updM M p (.lst [])) ∧
  (∀ k d acc M', ds[k]? = some d → Iv k acc M' → M' p = some (.lst acc) → keep M' ∧ ∃ d1 d2, d = .tup [d1, d2] ∧ tt W0 ((env.set i (some d1)).set j (some d2)) M' fun b M3 => Br b
    (te W0 ((env.set i (some d1)).set j (some d2)) M3 fun y M4 => ∃ acc', M4 p = some (.lst acc') ∧ acc'.length < sizeLine ∧ Iv (k + 1) (acc' ++ [y]) (updM M4 p (.lst (acc' ++ [y]))))
    (∃ acc', M3 p = some (.lst acc') ∧ Iv (k + 1) acc' M3)) ∧
  ∀ acc M', Iv ds.length acc M' → M' p = some (.lst acc) → keep M' ∧ Q M'
def e3LcP (ti : I3) (i j : Nat) (tt : T3) (te : E3) (vs : List Nat) : E3 := fun W env M Q => ti W env M fun ds keep M1 => ∀ p, M1 p = none → LoopP ds keep i j tt te (wipe3 env vs) p M1 fun M' => Q (.ref p) M'
theorem lcP_low {ti : I3} {i j : Nat} {tt : T3} {te : E3} {vs : List Nat} {W2 W2b : WX} (hv : i ∈ vs) (hv1 : j ∈ vs) (hW : W2b = fun _ _ _ _ => False) {σ : L2.St} {H : Hp} {Q2 : VK} (h : lowE X.K W2 (e3LcP ti i j tt te vs) σ H Q2) :
    tLc (lowI X.K W2 ti) (gTup X.K 2 (gCons (gName i) (gCons (gName j) gNil))) (lowT X.K W2b tt) (lowE X.K W2b te) vs σ H Q2 := by
  subst hW
  obtain ⟨env, M, W, Q, s, a, l, q, g⟩ := h
  refine ⟨env, M, W, _, s, a, l, q, fun ds keep J H1 M1 t1 a1 q1 ok Dd nD => ?_⟩
  obtain ⟨Iv, h0, hst, hd⟩ := q1 Dd (a1.fresh nD)
  have sw := (s.mono t1).wipe vs
  refine ⟨fun k m H' => m = ds.length - k ∧ k ≤ ds.length ∧ ∃ acc M', Tps H1 H' ∧ Abs X.K M' H' ∧ Iv k acc M' ∧ M' Dd = some (.lst acc), ⟨ds.length, by simp, Nat.zero_le _, [], _, Tps.new nD, a1.lstN nD Rvs.nil, h0, updM_same⟩, ?_⟩
  rintro k m H' ⟨rfl, hk, acc, M', t2, a', iv, hD⟩
  by_cases hlt : k < ds.length
  · have hx : ds[k]? = some ds[k] := List.getElem?_eq_getElem hlt
    obtain ⟨hkeep, d1, d2, hdd, hg⟩ := hst k _ acc M' hx iv hD
    obtain ⟨go, yl⟩ := ok.step k _ H' M' hx t2 a' hkeep
    refine .inr ⟨go, fun H2 => ∃ acc M2, Tps H1 H2 ∧ Abs X.K M2 H2 ∧ Iv (k + 1) acc M2 ∧ M2 Dd = some (.lst acc), fun H2 hn => ⟨ds.length - (k + 1), by omega, rfl, hlt, hn⟩, fun x H2 y => ?_⟩
    obtain ⟨t3, a3, r3⟩ := yl x H2 y
    have t23 := t2.trans t3
    rw [hdd] at r3
    obtain ⟨pt, ws, rfl, hs, hw⟩ := r3.tup_inv
    obtain ⟨v1, v2, rfl, r1, r2⟩ := two_inv hw
    refine ⟨pt, [v1, v2], rfl, hs, rfl, v1, [v2], rfl, v2, [], rfl, rfl, ?_, ?_⟩
    · rw [wipe_set hv1, wipe_set hv, wipe_wipe fun _ h => h]
    · have s2 : SE X.K H2 (((L2.wipe σ vs).set i (some v1)).set j (some v2)) (((wipe3 env vs).set i (some d1)).set j (some d2)) := ((sw.mono t23).set i r1).set j r2
      refine ⟨_, M', W0, _, s2, a3, LW0, hg, fun b H3 M3 t4 a4 q4 => ?_⟩
      cases b with
      | true =>
        show if true = true then _ else _
        rw [if_pos rfl]
        refine ⟨_, M3, W0, _, s2.mono t4, a4, LW0, q4.1 rfl, fun d v H4 M4 t5 a5 r5 q5 => ?_⟩
        obtain ⟨acc', e1, hz, iv'⟩ := q5
        obtain ⟨us, hu, ru⟩ := a5.lst e1
        exact ⟨us, hu, by rw [← ru.length]; exact hz, acc' ++ [d], _, ((t23.trans t4).trans t5).trans (Tps.lst hu), a5.lstU hu (ru.app (Rvs.cons r5 Rvs.nil)), iv', updM_same⟩
      | false =>
        show if false = true then _ else _
        rw [if_neg Bool.false_ne_true]
        obtain ⟨acc', e1, iv'⟩ := q4.2 rfl
        exact ⟨acc', M3, t23.trans t4, a4, iv', e1⟩
  · have e : k = ds.length := by omega
    subst e
    obtain ⟨hkeep, hq⟩ := hd acc M' iv hD
    exact .inl ⟨ok.stop H' M' t2 a' hkeep, g _ _ H' M' (t1.trans t2) a' Rv.ref hq⟩
theorem d_lcP {elt iter : Expr} {ifs : List Expr} {scope : Scope} {tg : Expr} {i j : Nat} {ti : I3} {tt : T3} {te : E3} (own : List (Str × Nat)) (hc : X.calm = true) (hN : X.N.Nodup) (hi : DI X tg iter ti) (ok : BlkOk X.N X.env.scope scope own) (hv : i ∈ own.map (·.2)) (hv1 : j ∈ own.map (·.2))
    (hg : ∀ (s : Shared) (H : Hp) (C : Addr) (cl : List (Str × Addr)) (fp : List Addr), PG (X.blk s H scope (compEnvC scope cl C X.env) fp) tg (gTup X.K 2 (gCons (gName i) (gCons (gName j) gNil))))
    (ht : ∀ (s : Shared) (H : Hp) (C : Addr) (cl : List (Str × Addr)) (fp : List Addr), DTs (X.blk s H scope (compEnvC scope cl C X.env) fp) ifs tt)
    (he : ∀ (s : Shared) (H : Hp) (C : Addr) (cl : List (Str × Addr)) (fp : List Addr), DE (X.blk s H scope (compEnvC scope cl C X.env) fp) elt te) (hs : ∀ x, foldedSetIterable iter X.env x = pure x := by intro _; rfl) :
    DE X (.ListComp elt [⟨tg, iter, ifs, 0⟩] scope pos) (e3LcP ti i j tt te (own.map (·.2))) := fun W2 tk =>
  (pe_lc hc hN (hi W2 tk) ok hg (fun s H C cl fp => ht s H C cl fp _ takesF) (fun s H C cl fp => he s H C cl fp _ takesF) hs).imp fun σ H Q2 h => lcP_low hv hv1 rfl h
/-! ### * of wide factors -/
def r3MulW : D → D → MH → Q3 → Prop
  | .int i, .int j, M, Q => CMulW i j ∧ Q (.int (i * j)) M
  | _, _, _, _ => False
theorem opl_mulW : OpL K (rI CMulW fun i j => .int (i * j)) r3MulW := by
  intro d e v u H M Q Q2 rd re a q g
  unfold r3MulW at q
  split at q
  · cases rd.int_inv; cases re.int_inv
    exact ⟨_, _, rfl, rfl, q.1, g _ _ H M (Tps.refl H) a Rv.int q.2⟩
  · exact q.elim
theorem d_mulW (ha : DE X a ta) (hb : DE X b tb) : DE X (.BinOp a .Mult b pos) (e3Op r3MulW ta tb) := d_op op_mulW opl_mulW ha hb
/-! ### try with two clauses -/
def s3Try2 (K : Fg) (c1 c2 : Value) (body h1 h2 : S3) : S3 := fun W D env M => body (fun cls dd env' M' => ∃ b, PySem.W.exmOne K cls c1 = some b ∧ (b = true → h1 W0 D env' M') ∧ (b = false → ∃ b2, PySem.W.exmOne K cls c2 = some b2 ∧ (b2 = true → h2 W0 D env' M') ∧ (b2 = false → W cls dd env' M'))) D env M
theorem ds_try2 {x1 x2 : Str} {c1 c2 : Value} {b1 b2 : Stmt} {suite1 suite2 body : List Stmt} {np1 np2 pp1 pp2 : Pos} {sb s1 s2 : S3} (hs : X.stack = X.env :: X.outer) (hf : X.env.frame = some X.env.locals) (hc1 : Names X x1 c1) (hc2 : Names X x2 c2)
    (hb : ∀ (pn : List (Addr × Obj)) (xe : Value → Shared → Prop), DSs (X.tr pn xe) body sb)
    (hs1 : ∀ (a : Addr) (oe : Obj) (pn : List (Addr × Obj)), DSs (X.suite a ((a, oe) :: pn)) (b1 :: suite1) s1)
    (hs2 : ∀ (a : Addr) (oe : Obj) (pn : List (Addr × Obj)), DSs (X.suite a ((a, oe) :: pn)) (b2 :: suite2) s2) :
    DS X (.Try body [.ExceptHandler (some (.Name x1 np1)) none (b1 :: suite1) pp1, .ExceptHandler (some (.Name x2 np2)) none (b2 :: suite2) pp2] [] [] pos) (s3Try2 X.K c1 c2 sb s1 s2) := fun W2 tk hp =>
  (ps_try_many (tb := fun W => lowS X.K W sb) (Wout := W2) (l := [(c1, fun _ _ _ => lowS X.K (fun _ _ _ _ => False) s1), (c2, fun _ _ _ => lowS X.K (fun _ _ _ _ => False) s2)]) hs hf tk (fun W pn xe tk' hp' => hb pn xe W tk' hp')
    (.cons hc1 (fun a oe cls d pn _ _ => hs1 a oe pn _ takes0 PassesOwn.never) (.cons hc2 (fun a oe cls d pn _ _ => hs2 a oe pn _ takes0 PassesOwn.never) .nil))).imp fun D2 σ H ⟨env, M, W, D3, s, a, l, q, le⟩ =>
    ⟨env, M, _, D3, s, a, fun cls dd σ' H' env' M' t s' a' ⟨b, e, y1, n1⟩ => ⟨b, e, fun hb a0 na => ⟨env', M', W0, D3, s', a', LW0, y1 hb, le.mono t⟩, fun hb => (let ⟨b', e', y2, n2⟩ := n1 hb
      ⟨b', e', fun hb' a0 na => ⟨env', M', W0, D3, s', a', LW0, y2 hb', le.mono t⟩, fun hb' => l cls dd σ' H' env' M' t s' a' (n2 hb')⟩)⟩, q, le⟩
end
end L3

namespace L3
open PySem PySem.Spec PyProof.Rows L2
/-! ### dicts with ints and texts as keys -/
def kD : Key → D
  | .inl i => .int i
  | .inr x => .str x
def valD (kvs : List (Key × D)) (k : Key) : Option D := (kvs.find? fun kv => decide (kv.1 = k)).map (·.2)
def putD (kvs : List (Key × D)) (k : Key) (v : D) : List (Key × D) :=
  if (kvs.any fun kv => decide (kv.1 = k)) = true then kvs.map (fun kv => if kv.1 = k then (kv.1, v) else kv) else kvs ++ [(k, v)]
def mergeD (kvs more : List (Key × D)) : List (Key × D) := more.foldl (fun acc kv => putD acc kv.1 kv.2) kvs
def DR (K : Fg) (H : Hp) (kvs : List (Key × D)) (ks : List (Key × V)) : Prop := ks.map (·.1) = kvs.map (·.1) ∧ Rvs K H (kvs.map (·.2)) (ks.map (·.2))
theorem Tps.dK {H : Hp} {p : Addr} {o : HO} {vs : List (Key × V)} (h : H p = some (.dK vs)) : Tps H (L2.upd H p o) :=
  ⟨fun q xs e => by rw [upd_ne (ne_of e h (by intro z; cases z))]; exact e, fun q u x e => by rw [upd_ne (ne_of e h (by intro z; cases z))]; exact e⟩
section
variable {K : Fg} {H H' : Hp} {M : MH} {p : Addr}
theorem kD_inv {k : Key} {v : V} (h : Rv K H (kD k) v) : v = kV k := by
  cases k with
  | inl i => exact h.int_inv
  | inr x => exact h.str_inv
theorem DR.mono {kvs : List (Key × D)} {ks : List (Key × V)} (h : DR K H kvs ks) (t : Tps H H') : DR K H' kvs ks := ⟨h.1, h.2.mono t⟩
theorem DR.nil : DR K H [] [] := ⟨rfl, Rvs.nil⟩
theorem DR.len {kvs : List (Key × D)} {ks : List (Key × V)} (h : DR K H kvs ks) : ks.length = kvs.length := by
  have := congrArg List.length h.1
  simpa using this
theorem DR.cons {k : Key} {d : D} {v : V} {kvs : List (Key × D)} {ks : List (Key × V)} (r : Rv K H d v) (h : DR K H kvs ks) : DR K H ((k, d) :: kvs) ((k, v) :: ks) :=
  ⟨by simp [h.1], Rvs.cons r h.2⟩
theorem DR.inv {k : Key} {d : D} {kvs : List (Key × D)} {ks : List (Key × V)} (h : DR K H ((k, d) :: kvs) ks) : ∃ v r, ks = (k, v) :: r ∧ Rv K H d v ∧ DR K H kvs r := by
  cases ks with
  | nil => exact absurd h.1 (by simp)
  | cons q r =>
    obtain ⟨v, vs, e, h1, h2⟩ := h.2.cons_inv
    have e1 := h.1
    simp only [List.map_cons, List.cons.injEq] at e e1
    obtain ⟨q1, q2⟩ := q
    simp only at e e1
    refine ⟨q2, r, by rw [e1.1], by rw [e.1]; exact h1, e1.2, by rw [e.2]; exact h2⟩
theorem DR.nil_inv {ks : List (Key × V)} (h : DR K H [] ks) : ks = [] := by simpa using h.1
theorem DR.val {k : Key} : ∀ {kvs : List (Key × D)} {ks : List (Key × V)}, DR K H kvs ks → (valD kvs k = none ∧ valV ks k = none) ∨ ∃ d v, valD kvs k = some d ∧ valV ks k = some v ∧ Rv K H d v
  | [], ks, h => by
    cases h.nil_inv
    exact .inl ⟨rfl, rfl⟩
  | (j, d) :: kvs, ks, h => by
    obtain ⟨v, r, rfl, h1, h2⟩ := h.inv
    by_cases e : j = k
    · refine .inr ⟨d, v, ?_, valV_pos e, h1⟩
      simp [valD, List.find?_cons, e]
    · have ih := DR.val (k := k) h2
      have e1 : valD ((j, d) :: kvs) k = valD kvs k := by simp [valD, List.find?_cons, e]
      have e2 : valV ((j, v) :: r) k = valV r k := valV_neg e
      rw [e1, e2]
      exact ih
theorem DR.any {kvs : List (Key × D)} {ks : List (Key × V)} (h : DR K H kvs ks) (k : Key) : (ks.any fun kv => decide (kv.1 = k)) = (kvs.any fun kv => decide (kv.1 = k)) := by
  have a1 : (ks.any fun kv => decide (kv.1 = k)) = ((ks.map (·.1)).any fun j => decide (j = k)) := by rw [List.any_map]; rfl
  have a2 : (kvs.any fun kv => decide (kv.1 = k)) = ((kvs.map (·.1)).any fun j => decide (j = k)) := by rw [List.any_map]; rfl
  rw [a1, a2, h.1]
theorem DR.app {kvs more : List (Key × D)} {ks ms : List (Key × V)} (h : DR K H kvs ks) (m : DR K H more ms) : DR K H (kvs ++ more) (ks ++ ms) :=
  ⟨by rw [List.map_append, List.map_append, h.1, m.1], by rw [List.map_append, List.map_append]; exact h.2.app m.2⟩
theorem DR.repl {k : Key} {d : D} {v : V} (r : Rv K H d v) : ∀ {kvs : List (Key × D)} {ks : List (Key × V)}, DR K H kvs ks → DR K H (kvs.map fun kv => if kv.1 = k then (kv.1, d) else kv) (ks.map fun kv => if kv.1 = k then (kv.1, v) else kv)
  | [], ks, h => by
    cases h.nil_inv
    exact DR.nil
  | (j, x) :: kvs, ks, h => by
    obtain ⟨y, t, rfl, h1, h2⟩ := h.inv
    have ih := DR.repl (k := k) r h2
    rw [List.map_cons, List.map_cons]
    by_cases e : j = k
    · rw [if_pos e, if_pos e]
      exact DR.cons r ih
    · rw [if_neg e, if_neg e]
      exact DR.cons h1 ih
theorem DR.put {k : Key} {d : D} {v : V} {kvs : List (Key × D)} {ks : List (Key × V)} (h : DR K H kvs ks) (r : Rv K H d v) : DR K H (putD kvs k d) (putK ks k v) := by
  unfold putD putK
  rw [h.any k]
  split
  · exact h.repl r
  · exact h.app (DR.cons r DR.nil)
theorem DR.merge : ∀ {more : List (Key × D)} {ms : List (Key × V)} {kvs : List (Key × D)} {ks : List (Key × V)}, DR K H more ms → DR K H kvs ks → DR K H (mergeD kvs more) (mergeK ks ms)
  | [], ms, kvs, ks, m, h => by
    cases m.nil_inv
    exact h
  | (k, d) :: more, ms, kvs, ks, m, h => by
    obtain ⟨v, r, rfl, h1, h2⟩ := m.inv
    exact DR.merge (more := more) (ms := r) (kvs := putD kvs k d) (ks := putK ks k v) h2 (h.put h1)
theorem Abs.dK (h : Abs K M H) {kvs : List (Key × D)} (e : M p = some (.dK kvs)) : ∃ ks, H p = some (.dK ks) ∧ DR K H kvs ks := by
  obtain ⟨ks, vs, h1, h2, rfl, h4⟩ := h p _ e
  exact ⟨ks, h1, h2, h4⟩
theorem Abs.dKN (h : Abs K M H) {kvs : List (Key × D)} {ks : List (Key × V)} (e : H p = none) (r : DR K H kvs ks) : Abs K (updM M p (.dK kvs)) (L2.upd H p (.dK ks)) :=
  h.upd (Tps.new e) ⟨ks, _, upd_same, r.1, rfl, r.2.mono (Tps.new e)⟩
theorem Abs.dKU (h : Abs K M H) {kvs : List (Key × D)} {ks ws : List (Key × V)} (e : H p = some (.dK ws)) (r : DR K H kvs ks) : Abs K (updM M p (.dK kvs)) (L2.upd H p (.dK ks)) :=
  h.upd (Tps.dK e) ⟨ks, _, upd_same, r.1, rfl, r.2.mono (Tps.dK e)⟩
end
section
variable {X : Cx} {e a b c o i : Expr} {es : List Expr} {pos p : Pos} {t ta tb tc : E3} {u : A3} {K : Fg}
def e3DNew : E3 := fun _ _ M Q => ∀ p, M p = none → Q (.ref p) (updM M p (.dK []))
theorem d_dnew : DE X (.Dict [] [] pos) e3DNew := fun W2 _ => pe_dnewK.imp fun σ H Q2 ⟨env, M, W, Q, s, a, l, q, g⟩ p hp =>
  g _ _ _ _ (Tps.new hp) (a.dKN hp DR.nil) Rv.ref (q p (a.fresh hp))
/-- pairs of a display -/
def e3Pairs : List (E3 × E3) → W3 → En → MH → (List (D × D) → MH → Prop) → Prop
  | [], _, _, M, Q => Q [] M
  | (tk, tv) :: r, W, env, M, Q => tk W env M fun x M1 => tv W env M1 fun y M2 => e3Pairs r W env M2 fun ps M3 => Q ((x, y) :: ps) M3
inductive DPs (X : Cx) : List (Option Expr) → List Expr → List (E3 × E3) → Prop
  | nil : DPs X [] [] []
  | cons {k v : Expr} {ks : List (Option Expr)} {vs : List Expr} {tk tv : E3} {r : List (E3 × E3)} (hk : DE X k tk) (hv : DE X v tv) (hr : DPs X ks vs r) : DPs X (some k :: ks) (v :: vs) ((tk, tv) :: r)
def lowP (K : Fg) (W2 : WX) (l : List (E3 × E3)) : List (TE × TE) := l.map fun q => (lowE K W2 q.1, lowE K W2 q.2)
theorem DPs.low {W2 : WX} (tk : Takes X W2) {ks : List (Option Expr)} {vs : List Expr} {l : List (E3 × E3)} (h : DPs X ks vs l) : PPs X pos ks vs (lowP X.K W2 l) := by
  induction h with
  | nil => exact pps_nil
  | cons hk hv hr ih => exact pps_cons (hk W2 tk) (hv W2 tk) ih
/-- pairs of values are as told -/
inductive PR (K : Fg) (H : Hp) : List (D × D) → List (V × V) → Prop
  | nil : PR K H [] []
  | cons {x y : D} {u v : V} {ds : List (D × D)} {vs : List (V × V)} (h1 : Rv K H x u) (h2 : Rv K H y v) (r : PR K H ds vs) : PR K H ((x, y) :: ds) ((u, v) :: vs)
theorem pairs_low {W2 : WX} : ∀ {l : List (E3 × E3)} {σ : L2.St} {H : Hp} {env : En} {M : MH} {W : W3} {Q : List (D × D) → MH → Prop} {Q2 : List (V × V) → Hp → Prop},
    SE K H σ env → Abs K M H → LW K H W W2 → e3Pairs l W env M Q → (∀ ds vs H' M', Tps H H' → Abs K M' H' → PR K H' ds vs → Q ds M' → Q2 vs H') → tPairs (lowP K W2 l) σ H Q2
  | [], σ, H, env, M, W, Q, Q2, s, a, l, q, g => g [] [] H M (Tps.refl H) a .nil q
  | (tk, tv) :: r, σ, H, env, M, W, Q, Q2, s, a, l, q, g => by
    show lowE K W2 tk σ H _
    refine ⟨env, M, W, _, s, a, l, q, fun x u H1 M1 t1 a1 r1 q1 => ?_⟩
    refine ⟨env, M1, W, _, s.mono t1, a1, l.mono t1, q1, fun y v H2 M2 t2 a2 r2 q2 => ?_⟩
    have t12 := t1.trans t2
    refine pairs_low (l := r) (s.mono t12) a2 (l.mono t12) q2 fun ds vs H3 M3 t3 a3 r3 q3 => ?_
    exact g _ _ H3 M3 (t12.trans t3) a3 (.cons (r1.mono (t2.trans t3)) (r2.mono t3) r3) q3
theorem pr_keys {H : Hp} : ∀ {kvs : List (Key × D)} {vs : List (V × V)}, PR K H (kvs.map fun kv => (kD kv.1, kv.2)) vs → ∃ ks : List (Key × V), vs = ks.map (fun kv => (kV kv.1, kv.2)) ∧ DR K H kvs ks
  | [], _, h => by cases h; exact ⟨[], rfl, DR.nil⟩
  | (k, d) :: kvs, _, h => by
    cases h with
    | cons h1 h2 r =>
      obtain ⟨ks, rfl, hk⟩ := pr_keys r
      exact ⟨(k, _) :: ks, by rw [kD_inv h1]; rfl, DR.cons h2 hk⟩
def e3Disp (l : List (E3 × E3)) : E3 := fun W env M Q => ∀ p, M p = none → e3Pairs l W env (updM M p (.dK [])) fun ps M2 => M2 p = some (.dK []) ∧ ∃ kvs : List (Key × D), ps = kvs.map (fun kv => (kD kv.1, kv.2)) ∧ kvs.length ≤ 15 ∧ Q (.ref p) (updM M2 p (.dK (mergeD [] kvs)))
theorem d_disp {keys : List (Option Expr)} {values : List Expr} {l : List (E3 × E3)} (h : DPs X keys values l) (hall : keys.all (·.isSome) = true := by rfl) (hl : keys.length = values.length := by rfl) (h0 : keys ≠ [] := by simp) (h15 : keys.length ≤ 15 := by simp) :
    DE X (.Dict keys values pos) (e3Disp l) := fun W2 tk => (pe_disp (h.low tk) hall hl h0 h15).imp fun σ H Q2 ⟨env, M, W, Q, s, a, lw, q, g⟩ p hp => by
  have tn : Tps H (L2.upd H p (.dK [])) := Tps.new hp
  refine pairs_low (s.mono tn) (a.dKN hp DR.nil) (lw.mono tn) (q p (a.fresh hp)) fun ds vs H3 M3 t3 a3 r3 q3 => ?_
  obtain ⟨hm, kvs, rfl, hz, q4⟩ := q3
  obtain ⟨ks, rfl, hk⟩ := pr_keys r3
  obtain ⟨ws, hw, hr⟩ := a3.dK hm
  cases hr.nil_inv
  exact ⟨hw, ks, rfl, by rw [hk.len]; exact hz, g _ _ _ _ ((tn.trans t3).trans (Tps.dK hw)) (a3.dKU hw (hk.merge DR.nil)) Rv.ref q4⟩
/-! ### d[k] -/
def rIxD (X : Cx) : R2 := fun x y H Q => ∃ p kvs k v, x = .ref p ∧ y = kV k ∧ H p = some (.dK kvs) ∧ valV kvs k = some v ∧ Q v H
def r3IxD : D → D → MH → Q3 → Prop := fun x y M Q => ∃ p kvs k d, x = .ref p ∧ y = kD k ∧ M p = some (.dK kvs) ∧ valD kvs k = some d ∧ Q d M
theorem opl_ixD : OpL K (rIxD X) r3IxD := by
  intro d e v u H M Q Q2 rd re a q g
  obtain ⟨p, kvs, k, x, rfl, rfl, hm, hv, q⟩ := q
  cases rd.ref_inv
  cases kD_inv re
  obtain ⟨ks, hk, hr⟩ := a.dK hm
  rcases hr.val (k := k) with ⟨z, _⟩ | ⟨x', w, z1, z2, rx⟩
  · rw [z] at hv; cases hv
  · rw [z1] at hv
    cases hv
    exact ⟨p, ks, k, w, rfl, rfl, hk, z2, g _ _ H M (Tps.refl H) a rx q⟩
theorem d_ixD {n : Nat} (hr : Room n X.A) (ha : DE X a ta) (hb : DE X b tb) (hs : NoSl b := by exact fun _ _ => rfl) : DE X (.Subscript a b pos) (e3Op r3IxD ta tb) := fun W2 tk =>
  (pe_dget (by have := Room.u65 hr; omega) (ha W2 tk) (hb W2 tk) hs).imp fun σ H Q2 h => by
    refine (?_ : tOp (fun x y H Q => ∃ a v, x = .ref a ∧ DGet H a y (some v) ∧ Q v H) (lowE X.K W2 ta) (lowE X.K W2 tb) σ H Q2)
    exact op_low (fun d e v u H M Q Q2 rd re a q g => let ⟨p, kvs, k, v, h1, h2, h3, h4, h5⟩ := opl_ixD (X := X) d e v u H M Q Q2 rd re a q g; ⟨p, v, h1, h2 ▸ h4 ▸ DGet.k h3, h5⟩) h
def g3SubD (to ti : E3) : G3 := fun W d env M Q => to W env M fun od M1 => ti W env M1 fun i M2 => ∃ p kvs k, od = .ref p ∧ i = kD k ∧ M2 p = some (.dK kvs) ∧ kvs.length < sizeLine ∧ Q env (updM M2 p (.dK (putD kvs k d)))
theorem dg_subD {n : Nat} (hr : Room n X.A) (ho : DE X o ta) (hi : DE X i tb) (ha : ∀ v, assign (.Subscript o i pos) X.env v = (do
      let ov ← holding [v] (eval o X.env)
      let iv ← holding [v, ov] (eval i X.env)
      standAt pos
      holding [v, ov, iv] (setItem ov iv v)
      release [v, ov, iv] []) := by intro _; rfl) : DG X (.Subscript o i pos) (g3SubD ta tb) := fun W2 tk => (pg_sub (ho W2 tk) (hi W2 tk) (set_dict (by have := Room.u65 hr; omega)) ha).imp fun v σ H Q2 ⟨d, env, M, W, Q, r, s, a, l, q, n⟩ => by
    refine ⟨env, M, W, _, s, a, l, q, fun od ov H1 M1 t1 a1 r1 q1 => ?_⟩
    refine ⟨env, M1, W, _, s.mono t1, a1, l.mono t1, q1, fun i iv H2 M2 t2 a2 r2 q2 => ?_⟩
    have t12 := t1.trans t2
    obtain ⟨p, kvs, k, rfl, rfl, hm, hz, q2⟩ := q2
    cases (r1.mono t2).ref_inv
    cases kD_inv r2
    obtain ⟨ks, hk, hr⟩ := a2.dK hm
    exact ⟨p, _, rfl, DPut.k hk (by rw [hr.len]; exact hz), n σ _ env _ (t12.trans (Tps.dK hk)) (s.mono (t12.trans (Tps.dK hk))) (a2.dKU hk (hr.put (r.mono t12))) q2⟩
/-! ### k in d -/
def r3InD (neg : Bool) : D → D → MH → Q3 → Prop := fun y x M Q => ∃ p kvs k, x = .ref p ∧ y = kD k ∧ M p = some (.dK kvs) ∧ Q (.bl (neg ^^ (valD kvs k).isSome)) M
def rInDK (neg : Bool) : R2 := fun y x H Q => ∃ p kvs k, x = .ref p ∧ y = kV k ∧ H p = some (.dK kvs) ∧ Q (.bl (neg ^^ (valV kvs k).isSome)) H
theorem opl_inD {neg : Bool} : OpL K (rInDK neg) (r3InD neg) := by
  intro d e v u H M Q Q2 rd re a q g
  obtain ⟨p, kvs, k, rfl, rfl, hm, q⟩ := q
  cases re.ref_inv
  cases kD_inv rd
  obtain ⟨ks, hk, hr⟩ := a.dK hm
  refine ⟨p, ks, k, rfl, rfl, hk, ?_⟩
  rcases hr.val (k := k) with ⟨z, z'⟩ | ⟨x', w, z1, z2, rx⟩
  · rw [z']; rw [z] at q; exact g _ _ H M (Tps.refl H) a Rv.bl q
  · rw [z2]; rw [z1] at q; exact g _ _ H M (Tps.refl H) a Rv.bl q
theorem ho_inD {n : Nat} (hr : Room n X.A) : OpR X (compareOp .In) (rInDK false) := by
  rintro pins s σ H x y v u Q I rx ry ⟨p, kvs, k, rfl, rfl, hk, q⟩
  cases ry
  exact d_in (by have := Room.u65 hr; omega) I (DGet.k hk) rx fun s3 I3 => ⟨.bl _, H, I3, rfl, by rw [Bool.false_xor] at q; exact q⟩
theorem ho_notinD {n : Nat} (hr : Room n X.A) : OpR X (compareOp .NotIn) (rInDK true) := by
  rintro pins s σ H x y v u Q I rx ry ⟨p, kvs, k, rfl, rfl, hk, q⟩
  cases ry
  exact d_notIn (by have := Room.u65 hr; omega) I (DGet.k hk) rx fun s3 I3 => ⟨.bl _, H, I3, rfl, by rw [Bool.true_xor] at q; exact q⟩
end
end L3

namespace L3
open PySem PySem.Spec PyProof.Rows L2
/-! ### repr of a dict whose values hold no lists -/
mutual
def noL : PyData → Bool
  | .none | .bool _ | .int _ | .str _ => true
  | .tuple xs => noLs xs
  | .list _ | .dict _ => false
def noLs : List PyData → Bool
  | [] => true
  | x :: xs => noL x && noLs xs
end
section
variable {h : Heap}
mutual
theorem reads_noL : ∀ (d : PyData) (v : Value) (as : List Addr), noL d = true → Reads h v d as → as = []
  | .none, _, _, _, r => by cases r; rfl
  | .bool _, _, _, _, r => by cases r; rfl
  | .int _, _, _, _, r => by cases r; rfl
  | .str _, _, _, _, r => by cases r; rfl
  | .tuple xs, _, as, n, r => by
    cases r with
    | tuple h1 h2 h3 h4 => exact readsAll_noL xs _ as (by simpa [noL] using n) h4
  | .list _, _, _, n, _ => by simp [noL] at n
  | .dict _, _, _, n, _ => by simp [noL] at n
theorem readsAll_noL : ∀ (ds : List PyData) (vs : List Value) (as : List Addr), noLs ds = true → ReadsAll h vs ds as → as = []
  | [], _, _, _, r => by cases r; rfl
  | d :: ds, _, _, n, r => by
    have n' : noL d = true ∧ noLs ds = true := by simpa [noLs] using n
    cases r with
    | cons r1 r2 =>
      rw [reads_noL d _ _ n'.1 r1, readsAll_noL ds _ _ n'.2 r2]
      rfl
end
end
def kP : Key → PyData
  | .inl i => .int i
  | .inr x => .str x
section
variable {X : Cx} {e a b c o i : Expr} {es : List Expr} {pos p : Pos} {t ta tb tc : E3} {u : A3} {K : Fg}
theorem pairs_keys {P : Program} {w : World} {h : Heap} : ∀ {es : List DictEntry} {kvs : List (Key × Value)}, Pairs (mixKind P w) es kvs → ReadsAll h (es.map (·.key)) (kvs.map fun kv => kP kv.1) []
  | _, _, .nil => .nil
  | e :: es, (k, v) :: kvs, .cons h1 h2 r => by
    have ih := pairs_keys (h := h) r
    have hk : Reads h e.key (kP k) [] := by
      rcases keyIs_shape h1 with ⟨i, t, e1, e2⟩ | ⟨x, t, e1, e2⟩
      · simp only at e1
        subst e1
        rw [e2]
        exact .int i t
      · simp only at e1
        subst e1
        rw [e2]
        exact .str x t
    exact ReadsAll.cons hk ih
theorem pairs_vals {P : Program} {w : World} : ∀ {es : List DictEntry} {kvs : List (Key × Value)}, Pairs (mixKind P w) es kvs → es.map (·.val) = kvs.map (·.2)
  | _, _, .nil => rfl
  | e :: es, (k, v) :: kvs, .cons h1 h2 r => by
    rw [List.map_cons, List.map_cons, pairs_vals r, h2]
theorem kv_vals : ∀ {ks : List (Key × V)} {vs : List (Key × Value)}, KV ks vs → Vals (ks.map (·.2)) (vs.map (·.2)) ∧ ks.map (·.1) = vs.map (·.1)
  | _, _, .nil => ⟨.nil, rfl⟩
  | _ :: _, _ :: _, .cons h1 r => by
    obtain ⟨a, b⟩ := kv_vals r
    exact ⟨.cons h1.2 a, by rw [List.map_cons, List.map_cons, b, h1.1]⟩
/-- what is shown of the dict -/
def dP (kvs : List (Key × D)) (ps : List PyData) : PyData := .dict ((kvs.map fun kv => kP kv.1).zip ps)
def rReprD (K : Fg) : List V → Hp → VK → Prop := fun vs H Q => ∃ a ks ps, vs = [.ref a] ∧ H a = some (.dK ks) ∧ DpAll K H (ks.map (·.2)) ps ∧ noLs ps = true ∧
  PyData.showable (.dict ((ks.map fun kv => kP kv.1).zip ps)) = true ∧ PyData.depth (.dict ((ks.map fun kv => kP kv.1).zip ps)) ≤ 100 ∧ (PyData.dict ((ks.map fun kv => kP kv.1).zip ps)).shown.length ≤ sizeLine ∧ Q (.str (PyData.dict ((ks.map fun kv => kP kv.1).zip ps)).shown) H
theorem DpAll.len : ∀ {vs : List V} {ds : List PyData} {H : Hp}, DpAll K H vs ds → vs.length = ds.length
  | _, _, _, .nil => rfl
  | _, _, _, .cons _ r => by rw [List.length_cons, List.length_cons, DpAll.len r]
theorem cr_reprD {k : Nat} (hr : RoomG k X.A) : CallR X (.builtin "repr") (rReprD X.K) := by
  rintro pins s σ H xs us Q I r ⟨a, ks, ps, rfl, hk, hd, hn, h1, h3, h4, q⟩
  obtain ⟨w, rfl, rv⟩ := vals1 r
  cases rv
  obtain ⟨z, hs, vs, rel, ob, es, n, ho, ex, hdat, kof, prs, nd⟩ := dk_of I.hok hk
  obtain ⟨rvs, rks⟩ := kv_vals rel
  obtain ⟨bs, rb⟩ := Dp.readsAll I ps _ _ hd rvs
  have hb := readsAll_noL ps _ _ hn rb
  subst hb
  have lens : ((ks.map fun kv => kP kv.1)).length = ps.length := by
    have := DpAll.len hd
    simpa using this
  have e1 : (((ks.map fun kv => kP kv.1).zip ps).map (·.1)) = vs.map fun kv => kP kv.1 := by
    rw [show (((ks.map fun kv => kP kv.1).zip ps).map (·.1)) = (ks.map fun kv => kP kv.1) from List.map_fst_zip (Nat.le_of_eq lens)]
    have := congrArg (List.map kP) rks
    rw [List.map_map, List.map_map] at this
    exact this
  have e2 : (((ks.map fun kv => kP kv.1).zip ps).map (·.2)) = ps := List.map_snd_zip (Nat.le_of_eq lens.symm)
  have rd : Reads s.heap (.ref a) (.dict ((ks.map fun kv => kP kv.1).zip ps)) (a :: [] ++ []) := by
    refine Reads.dict (es := es) (n := n) ho ex.1 hdat ?_ ?_
    · rw [e1]
      exact pairs_keys prs
    · rw [e2, pairs_vals prs]
      exact rb
  refine repr_of_reads' rd h1 (fun _ m => ?_) hr.g (by have := hr.r.un; omega) (fun _ _ e => e) (fun h' u tk hk => ⟨.str _, H, I.kept hk, ⟨_, rfl⟩, q⟩) h4
  have : sysModules = a := by simpa using m
  rw [← this] at hs
  simp at hs
def c3ReprD : List D → MH → Q3 → Prop := fun ds M Q => ∃ a kvs ps, ds = [.ref a] ∧ M a = some (.dK kvs) ∧ Pys M (kvs.map (·.2)) ps ∧ noLs ps = true ∧
  PyData.showable (dP kvs ps) = true ∧ PyData.depth (dP kvs ps) ≤ 100 ∧ (dP kvs ps).shown.length ≤ sizeLine ∧ Q (.str (dP kvs ps).shown) M
theorem cl_reprD : CallL K (rReprD K) c3ReprD := by
  intro ds vs H M Q Q2 r a q g
  obtain ⟨l, kvs, ps, rfl, hm, hp, hn, h1, h2, h3, q⟩ := q
  obtain ⟨v, rfl, rr⟩ := one_inv r
  cases rr.ref_inv
  obtain ⟨ks, hk, hr⟩ := a.dK hm
  have e : (ks.map fun kv => kP kv.1) = kvs.map fun kv => kP kv.1 := by
    have := congrArg (List.map kP) hr.1
    rw [List.map_map, List.map_map] at this
    exact this
  unfold dP at h1 h2 h3 q
  rw [← e] at h1 h2 h3 q
  exact ⟨l, ks, ps, rfl, hk, Pys.dp a ps _ _ hp hr.2, hn, h1, h2, h3, g _ _ H M (Tps.refl H) a Rv.str q⟩
/-- repr of a value, or of a dict -/
def c3ReprX : List D → MH → Q3 → Prop := fun ds M Q => c3Repr ds M Q ∨ c3ReprD ds M Q
theorem d_reprX {k : Nat} (hr : RoomG k X.A) (hm : X.mg "repr" = none) (ha : DA X [e] u) (hg : Gl X "repr" := by rfl) (he : starEach (e :: []) X.env = (false, eval e X.env) :: starEach [] X.env := by rfl) (hpl : (backTo pos (starEach [] X.env)).any (·.1) = false := by rfl) : DE X (.Call (.Name "repr" p) [e] [] pos) (e3CB c3ReprX u) :=
  d_cb (r := fun vs H Q => rRepr X.K vs H Q ∨ rReprD X.K vs H Q) (fun pins s σ H xs us Q I r q => q.elim (cr_repr hr pins s σ H xs us Q I r) (cr_reprD hr pins s σ H xs us Q I r))
    (fun ds vs H M Q Q2 r a q g => q.elim (fun q => .inl (cl_repr ds vs H M Q Q2 r a q g)) fun q => .inr (cl_reprD ds vs H M Q Q2 r a q g)) hg hm boot_repr' ha (by decide) (by decide) he hpl
end
end L3

namespace L3
open PySem PySem.Spec PyProof.Rows L2
/-! ### networks -/
structure Net where
  many : Nat
  links : List (List Int)
  wh : List Int
  bl : List Int
def netD (N : Net) : D := .tup [.str "network", .int (N.many : Int), .tup (N.links.map rowD), rowD N.wh, rowD N.bl]
structure Good (N : Net) (c : Nat) : Prop where
  m1 : 1 ≤ N.many
  m2 : N.many ≤ 400
  c4 : c ≤ 4
  l : N.links.length = c
  o : ∀ l ∈ N.links, Ord N.many l
  w : N.wh.length = N.many
  b : N.bl.length = N.many
  iw : ∀ x ∈ N.wh, 0 ≤ x ∧ x < 100
  ib : ∀ x ∈ N.bl, 0 ≤ x ∧ x < 100
def sideS (b : Bool) : Str := if b then "white" else "black"
theorem side_w (b : Bool) : decide (sideS b = "white") = b := by cases b <;> decide
theorem side_b (b : Bool) : decide (sideS b = "black") = !b := by cases b <;> decide
def behind (N : Net) (b : Bool) (k : Int) (c : Nat) : Int := if b then (N.links.getD c []).getD k.toNat 0 else ((N.links.getD c []).idxOf k : Nat)
def inp (N : Net) (b : Bool) (k : Int) : Int := (if b then N.wh else N.bl).getD k.toNat 0
def viewD (N : Net) : Nat → Bool → Int → Int → D
  | 0, b, k, _ => .tup [.int (inp N b k)]
  | r + 1, b, k, back => .tup [.int (inp N b k), .tup ((List.range N.links.length).map fun c : Nat => if (c : Int) + 1 = back then .non else viewD N r (!b) (behind N b k c) ((c : Int) + 1))]
section
variable {N : Net} {c : Nat}
theorem Good.link (g : Good N c) {i : Nat} (hi : i < c) : N.links.getD i [] ∈ N.links ∧ Ord N.many (N.links.getD i []) ∧ (N.links.map rowD)[i]? = some (rowD (N.links.getD i [])) := by
  have hl : i < N.links.length := by rw [g.l]; exact hi
  have e : N.links.getD i [] = N.links[i] := by simp [hl]
  rw [e]
  exact ⟨List.getElem_mem hl, g.o _ (List.getElem_mem hl), by rw [List.getElem?_map, List.getElem?_eq_getElem hl]; rfl⟩
theorem getD_at {xs : List Int} {k : Int} (k0 : 0 ≤ k) (k1 : k < xs.length) : xs.getD k.toNat 0 ∈ xs ∧ atI (xs.map D.int) k = some (.int (xs.getD k.toNat 0)) := by
  obtain ⟨j, rfl⟩ := Int.eq_ofNat_of_zero_le k0
  have hj : j < xs.length := by omega
  have e : xs.getD (j : Int).toNat 0 = xs[j] := by rw [Int.toNat_natCast]; simp [hj]
  rw [e]
  exact ⟨List.getElem_mem hj, atI_nat (get_map hj)⟩
theorem Good.behind (g : Good N c) {b : Bool} {k : Int} {i : Nat} (hi : i < c) (k0 : 0 ≤ k) (k1 : k < N.many) : 0 ≤ behind N b k i ∧ behind N b k i < N.many := by
  obtain ⟨_, o, _⟩ := g.link hi
  cases b with
  | true =>
    show 0 ≤ (N.links.getD i []).getD k.toNat 0 ∧ (N.links.getD i []).getD k.toNat 0 < N.many
    exact o.mem.mp (getD_at k0 (by rw [o.len]; exact k1)).1
  | false =>
    show 0 ≤ (((N.links.getD i []).idxOf k : Nat) : Int) ∧ (((N.links.getD i []).idxOf k : Nat) : Int) < N.many
    have h := List.idxOf_lt_length_iff.mpr (o.mem.mpr ⟨k0, k1⟩)
    rw [o.len] at h
    omega
theorem Good.inp (g : Good N c) {b : Bool} {k : Int} (k0 : 0 ≤ k) (k1 : k < N.many) : 0 ≤ inp N b k ∧ inp N b k < 100 := by
  cases b with
  | true => exact g.iw _ (getD_at k0 (by rw [g.w]; exact k1)).1
  | false => exact g.ib _ (getD_at k0 (by rw [g.b]; exact k1)).1
def viewW : Nat → Nat
  | 0 => 62
  | r + 1 => 2 * (4 * (viewW r + 1) + 1)
theorem viewW_pos : ∀ r, 30 ≤ viewW r
  | 0 => by decide
  | r + 1 => by
    have := viewW_pos r
    show 30 ≤ 2 * (4 * (viewW r + 1) + 1)
    omega
theorem fit_view (g : Good N c) : ∀ (r : Nat) (b : Bool) (k back : Int), 0 ≤ k → k < N.many → Fit (2 * r + 1) (viewW r) (viewD N r b k back)
  | 0, b, k, back, k0, k1 => by
    obtain ⟨i0, i1⟩ := g.inp (b := b) k0 k1
    refine fit_tup (k := 0) (w := 30) (n := 1) (fun x hx => ?_) (Nat.le_refl _) (by decide) (by decide)
    rw [List.mem_singleton] at hx
    subst hx
    exact fit_int (by omega) (Nat.le_refl _)
  | r + 1, b, k, back, k0, k1 => by
    obtain ⟨i0, i1⟩ := g.inp (b := b) k0 k1
    have hp := viewW_pos r
    refine fit_tup (k := 2 * r + 2) (w := 4 * (viewW r + 1)) (n := 2) (fun x hx => ?_) (Nat.le_refl _) (Nat.le_refl _) (by omega)
    simp only [List.mem_cons, List.not_mem_nil, or_false] at hx
    rcases hx with rfl | rfl
    · exact fit_int (by omega) (by omega)
    · refine fit_tup (k := 2 * r + 1) (w := viewW r) (n := 4) (fun x hx => ?_) (by rw [List.length_map, List.length_range, g.l]; exact g.c4) (Nat.le_refl _) (Nat.le_refl _)
      obtain ⟨i, hi, rfl⟩ := List.mem_map.mp hx
      have hi' : i < c := by rw [← g.l]; exact List.mem_range.mp hi
      split
      · exact fit_non
      · exact fit_view g r (!b) _ _ (g.behind hi' k0 k1).1 (g.behind hi' k0 k1).2
theorem fit_net (g : Good N c) : Fit 3 250000 (netD N) := by
  have rows : ∀ l : List Int, l.length = N.many → (∀ x ∈ l, 0 ≤ x ∧ x < 1000) → Fit 1 (400 * 31) (rowD l) := fun l hl hx => fit_row (n := 400) (fun x h => by have := hx x h; omega) (by rw [hl]; exact g.m2)
  have m1 := g.m1
  have m2 := g.m2
  refine fit_tup (k := 2) (w := 4 * (400 * 31 + 1)) (n := 5) (fun x hx => ?_) (Nat.le_refl _) (by decide) (Nat.le_refl _)
  simp only [List.mem_cons, List.not_mem_nil, or_false] at hx
  rcases hx with rfl | rfl | rfl | rfl | rfl
  · exact ⟨rfl, by decide +kernel, by simp [pyOf, PyData.depth], by simp only [pyOf, PyData.weight]; decide⟩
  · exact fit_int (by omega) (by decide)
  · refine fit_tup (k := 1) (w := 400 * 31) (n := 4) (fun x hx => ?_) (by rw [List.length_map, g.l]; exact g.c4) (Nat.le_refl _) (Nat.le_refl _)
    obtain ⟨l, hl, rfl⟩ := List.mem_map.mp hx
    have o := g.o l hl
    exact rows l o.len fun x h => by have := o.mem.mp h; omega
  · exact (rows _ g.w fun x h => by have := g.iw x h; omega).mono (by decide) (by decide)
  · exact (rows _ g.b fun x h => by have := g.ib x h; omega).mono (by decide) (by decide)
end
/-! ### the program's defs on networks -/
def tOtherSide : S3 := (s3Ret (e3If (t3Test (e3Op r3Eq (e3Var 0) (e3C (.str "white")))) (e3C (.str "black")) (e3C (.str "white"))))
def spOtherSide : Sp3 := fun ds M Q _ => ∃ b, ds = [.str (sideS b)] ∧ Q (.str (sideS (!b))) M
theorem rdOtherSide : Rd3 ["side"] tOtherSide spOtherSide := by
  rintro ds M Q E ⟨b, rfl, q⟩
  conv => whnf
  refine eq_str ?_
  rw [side_w]
  cases b with
  | true => exact Br.tt ⟨M, Sub.refl _, q⟩
  | false => exact Br.ff ⟨M, Sub.refl _, q⟩
def tMetBehind : S3 :=
    (s3Seq (s3Asg (e3Op r3Ix (e3Op r3Ix (e3Var 0) (e3C (.int 2))) (e3Op r3Sub (e3Var 3) (e3C (.int 1)))) 4)
    (s3Ret (e3If (t3Test (e3Op r3Eq (e3Var 1) (e3C (.str "white")))) (e3Op r3Ix (e3Var 4) (e3Var 2)) (e3Tm m3Tix (e3Var 4) (a3Cons (e3Var 2) a3Nil)))))
def spMetBehind : Sp3 := fun ds M Q _ => ∃ (N : Net) (c : Nat) (b : Bool) (k : Int) (i : Nat), ds = [netD N, .str (sideS b), .int k, .int ((i : Int) + 1)] ∧ Good N c ∧ 0 ≤ k ∧ k < N.many ∧ i < c ∧ Q (.int (behind N b k i)) M
theorem rdMetBehind : Rd3 ["network", "side", "node", "colour", "links"] tMetBehind spMetBehind := by
  rintro ds M Q E ⟨N, c, b, k, i, rfl, g, k0, k1, hi, q⟩
  obtain ⟨_, o, hat⟩ := g.link hi
  refine ⟨_, rfl, rowD (N.links.getD i []), ?_, ?_⟩
  · rw [Int.add_sub_cancel]
    exact atI_nat hat
  conv => whnf
  refine eq_str ?_
  rw [side_w]
  cases b with
  | true => exact Br.tt ⟨_, (getD_at k0 (by rw [o.len]; exact k1)).2, M, Sub.refl _, q⟩
  | false => exact Br.ff ⟨_, rfl, o.mem.mpr ⟨k0, k1⟩, M, Sub.refl _, q⟩
def tInputOf : S3 := (s3Ret (e3If (t3Test (e3Op r3Eq (e3Var 1) (e3C (.str "white")))) (e3Op r3Ix (e3Op r3Ix (e3Var 0) (e3C (.int 3))) (e3Var 2)) (e3Op r3Ix (e3Op r3Ix (e3Var 0) (e3C (.int 4))) (e3Var 2))))
def spInputOf : Sp3 := fun ds M Q _ => ∃ (N : Net) (c : Nat) (b : Bool) (k : Int), ds = [netD N, .str (sideS b), .int k] ∧ Good N c ∧ 0 ≤ k ∧ k < N.many ∧ Q (.int (inp N b k)) M
theorem rdInputOf : Rd3 ["network", "side", "node"] tInputOf spInputOf := by
  rintro ds M Q E ⟨N, c, b, k, rfl, g, k0, k1, q⟩
  conv => whnf
  refine eq_str ?_
  rw [side_w]
  cases b with
  | true => exact Br.tt ⟨_, rfl, _, (getD_at k0 (by rw [g.w]; exact k1)).2, M, Sub.refl _, q⟩
  | false => exact Br.ff ⟨_, rfl, _, (getD_at k0 (by rw [g.b]; exact k1)).2, M, Sub.refl _, q⟩
def tBranchIn (sI sB sO sf : Sp3) : S3 :=
    (s3Seq (s3Asg (e3Call sI (a3Cons (e3Var 0) (a3Cons (e3Var 1) (a3Cons (e3Var 2) a3Nil)))) 5)
    (s3Seq (s3If (t3Test (e3Op r3Eq (e3Var 3) (e3C (.int 0)))) (s3Ret (e3Tup (a3Cons (e3Var 5) a3Nil))) s3Nil)
    (s3Seq (s3Asg (e3Lst a3Nil) 6)
    (s3Seq (s3For (i3Rng2 (a3Cons (e3C (.int 1)) (a3Cons (e3Op r3Add (e3CB c3Len (a3Cons (e3Op r3Ix (e3Var 0) (e3C (.int 2))) a3Nil)) (e3C (.int 1))) a3Nil))) (g3Name 7) (s3If (t3Test (e3Op r3Eq (e3Var 7) (e3Var 4))) (s3Expr (e3Bm m3App (e3Var 6) (a3Cons (e3C .non) a3Nil))) (s3Seq (s3Asg (e3Call sB (a3Cons (e3Var 0) (a3Cons (e3Var 1) (a3Cons (e3Var 2) (a3Cons (e3Var 7) a3Nil))))) 8)
    (s3Expr (e3Bm m3App (e3Var 6) (a3Cons (e3Call sf (a3Cons (e3Var 0) (a3Cons (e3Call sO (a3Cons (e3Var 1) a3Nil)) (a3Cons (e3Var 8) (a3Cons (e3Op r3Sub (e3Var 3) (e3C (.int 1))) (a3Cons (e3Var 7) a3Nil)))))) a3Nil))))))
    (s3Ret (e3Tup (a3Cons (e3Var 5) (a3Cons (e3TupOf (e3Var 6)) a3Nil))))))))
abbrev NBranchIn : List Str := ["network", "side", "node", "reach", "colour", "number", "parts", "other", "behind"]
/-- the promise to a depth -/
def spView (n : Nat) : Sp3 := fun ds M Q _ => ∃ (N : Net) (c r : Nat) (b : Bool) (k back : Int), ds = [netD N, .str (sideS b), .int k, .int (r : Int), .int back] ∧ Good N c ∧ 0 ≤ k ∧ k < N.many ∧ r ≤ n ∧ Q (viewD N r b k back) M
def partD (N : Net) (r : Nat) (b : Bool) (k back : Int) (c : Nat) : D := if (c : Int) + 1 = back then .non else viewD N r (!b) (behind N b k c) ((c : Int) + 1)
theorem viewD_succ {N : Net} {r : Nat} {b : Bool} {k back : Int} : viewD N (r + 1) b k back = .tup [.int (inp N b k), .tup ((List.range N.links.length).map (partD N r b k back))] := rfl
theorem parts_step {N : Net} {r : Nat} {b : Bool} {k back : Int} {i : Nat} {x : D} (h : partD N r b k back i = x) : (List.range i).map (partD N r b k back) ++ [x] = (List.range (i + 1)).map (partD N r b k back) := by
  rw [List.range_succ, List.map_append, ← h]; rfl
theorem rdBranchIn {n : Nat} {sf : Sp3} (hf : n = 0 ∨ ∃ j, n = j + 1 ∧ sf = spView j) : Rd3 NBranchIn (tBranchIn spInputOf spMetBehind spOtherSide sf) (spView n) := by
  rintro ds M Q E ⟨N, c, r, b, k, back, rfl, g, k0, k1, hr, q⟩
  refine ⟨N, c, b, k, rfl, g, k0, k1, ?_⟩
  conv => whnf
  refine eq_int ⟨fun e => ?_, fun e => ?_⟩
  · have r0 : r = 0 := by have := of_decide_eq_true e; omega
    subst r0
    exact ⟨szLe (by show 1 ≤ 1000000; decide), M, Sub.refl _, q⟩
  have rp : r ≠ 0 := fun z => by subst z; exact of_decide_eq_false e rfl
  obtain ⟨r, rfl⟩ := Nat.exists_eq_succ_of_ne_zero rp
  obtain ⟨j, rfl, rfl⟩ : ∃ j, n = j + 1 ∧ sf = spView j := by
    rcases hf with h | h
    · omega
    · exact h
  refine ⟨szLe (by simp), fun w nw => ?_⟩
  refine ⟨_, rfl, ?_⟩
  have lc : (N.links.map rowD).length = c := by rw [List.length_map, g.l]
  have c4 := g.c4
  conv => whnf
  rw [lc]
  refine ⟨⟨by decide, by decide, by omega, by omega⟩, ?_⟩
  rw [show ((c : Int) + 1 - 1).toNat = c by omega]
  refine ⟨fun i env' M' => ∃ s7 s8, env' = [some (netD N), some (.str (sideS b)), some (.int k), some (.int ((r + 1 : Nat) : Int)), some (.int back), some (.int (inp N b k)), some (.ref w), s7, s8] ∧ Sub M M' ∧ M' w = some (.lst ((List.range i).map (partD N r b k back))), ⟨none, none, rfl, (Sub.refl M).new nw, updM_same⟩, ?_, ?_⟩
  · rintro i d env' M' hd ⟨s7, s8, rfl, sub, hw⟩
    obtain ⟨hi, rfl⟩ := rngD_get hd
    have e1 : (1 : Int) + (i : Int) = (i : Int) + 1 := Int.add_comm 1 _
    rw [e1]
    have hz : ((List.range i).map (partD N r b k back)).length < sizeLine := szLt (by rw [List.length_map, List.length_range]; omega)
    refine ⟨trivial, eq_int ⟨fun e => ?_, fun e => ?_⟩⟩
    · refine ⟨⟨_, .inl hw⟩, _, hw, hz, _, _, rfl, sub.new nw, ?_⟩
      rw [updM_same, parts_step]
      unfold partD
      rw [if_pos (of_decide_eq_true e)]
    · obtain ⟨b0, b1⟩ := g.behind (b := b) hi k0 k1
      refine ⟨N, c, b, k, i, rfl, g, k0, k1, hi, ⟨_, .inl hw⟩, b, rfl, N, c, r, !b, behind N b k i, (i : Int) + 1, ?_, g, b0, b1, by omega, _, hw, hz, _, _, rfl, sub.new nw, ?_⟩
      · rw [show ((r + 1 : Nat) : Int) - 1 = (r : Int) by omega]
      · rw [updM_same, parts_step]
        unfold partD
        rw [if_neg (of_decide_eq_false e)]
  · rintro env' M' ⟨s7, s8, rfl, sub, hw⟩
    rw [rngD_length] at hw
    refine ⟨trivial, _, .inl hw, szLe (by show 2 ≤ 1000000; decide), M, sub, ?_⟩
    have q' := q
    rw [show r.succ = r + 1 from rfl, viewD_succ, g.l] at q'
    exact q'
end L3

namespace L3
open PySem PySem.Spec PyProof.Rows L2
/-- a comprehension by the places -/
theorem lcIdx {ds : List D} {keep : MH → Prop} {i : Nat} {te : E3} {env : En} {p : Addr} {M : MH} {Q : MH → Prop} (g : Nat → D) (hp : M p = none) (hk : ∀ M', Sub M M' → keep M')
    (he : ∀ (k : Nat) (d : D) (M' : MH) (R : Q3), ds[k]? = some d → Sub M M' → (∀ M'', Sub M' M'' → R (g k) M'') → te W0 (env.set i (some d)) M' R) (hsz : ds.length < sizeLine)
    (hq : ∀ M', Sub M M' → M' p = some (.lst ((List.range ds.length).map g)) → Q M') : LoopC ds keep i t3Yes te env p M Q := by
  refine ⟨fun k acc M' => acc = (List.range k).map g ∧ Sub M M', ⟨rfl, (Sub.refl M).new hp⟩, ?_, ?_⟩
  · rintro k d acc M' hd ⟨rfl, sub⟩ hpM
    have hlt := (List.getElem?_eq_some_iff.mp hd).1
    refine ⟨hk M' sub, Br.tt (he k d M' _ hd sub fun M'' s2 => ⟨(List.range k).map g, s2 p _ hpM, ?_, ?_, (sub.trans s2).new hp⟩)⟩
    · rw [List.length_map, List.length_range]
      exact Nat.lt_trans hlt hsz
    · rw [List.range_succ, List.map_append]
      rfl
  · rintro acc M' ⟨rfl, sub⟩ hpM
    exact ⟨hk M' sub, hq M' sub hpM⟩
theorem range_get {g : Nat → D} {n k : Nat} {d : D} (h : ((List.range n).map g)[k]? = some d) : k < n ∧ d = g k := by
  rw [List.getElem?_map] at h
  by_cases hk : k < n
  · rw [List.getElem?_range hk] at h
    exact ⟨hk, (Option.some.inj h).symm⟩
  · rw [List.getElem?_eq_none (by simpa using hk)] at h
    cases h
theorem range_at {g : Nat → D} {n k : Nat} (h : k < n) : ((List.range n).map g)[k]? = some (g k) := by
  rw [List.getElem?_map, List.getElem?_range h]; rfl
/-! ### trees: views by a walk -/
section
variable {S : Type} (num : S → Int) (nx : S → Int → S) (cs : Nat)
def treeG : Nat → S → Int → D
  | 0, s, _ => .tup [.int (num s)]
  | r + 1, s, back => .tup [.int (num s), .tup ((List.range cs).map fun c : Nat => if (c : Int) + 1 = back then .non else treeG r (nx s ((c : Int) + 1)) ((c : Int) + 1))]
def partG (r : Nat) (s : S) (back : Int) (c : Nat) : D := if (c : Int) + 1 = back then .non else treeG num nx cs r (nx s ((c : Int) + 1)) ((c : Int) + 1)
theorem treeG_zero {s : S} {back : Int} : treeG num nx cs 0 s back = .tup [.int (num s)] := rfl
theorem treeG_succ {r : Nat} {s : S} {back : Int} : treeG num nx cs (r + 1) s back = .tup [.int (num s), .tup ((List.range cs).map (partG num nx cs r s back))] := rfl
variable {num nx cs}
theorem tree_not_non {r : Nat} {s : S} {b : Int} : isNonD (treeG num nx cs r s b) = false := by cases r <;> rfl
theorem part_in {r : Nat} {s : S} {b : Int} {c : Nat} (h : (c : Int) + 1 ≠ b) : partG num nx cs r s b c = treeG num nx cs r (nx s ((c : Int) + 1)) ((c : Int) + 1) := if_neg h
theorem part_out {r : Nat} {s : S} {b : Int} {c : Nat} (h : (c : Int) + 1 = b) : partG num nx cs r s b c = .non := if_pos h
theorem parts_app {r : Nat} {s : S} {b : Int} {i : Nat} {x : D} (h : partG num nx cs r s b i = x) : (List.range i).map (partG num nx cs r s b) ++ [x] = (List.range (i + 1)).map (partG num nx cs r s b) := by
  rw [List.range_succ, List.map_append, ← h]; rfl
theorem fit_tree (hn : ∀ s, 0 ≤ num s ∧ num s < 100) (hc : cs ≤ 4) : ∀ (r : Nat) (s : S) (b : Int), Fit (2 * r + 1) (viewW r) (treeG num nx cs r s b)
  | 0, s, b => by
    have := hn s
    refine fit_tup (k := 0) (w := 30) (n := 1) (fun x hx => ?_) (Nat.le_refl _) (by decide) (by decide)
    rw [List.mem_singleton] at hx
    subst hx
    exact fit_int (by omega) (Nat.le_refl _)
  | r + 1, s, b => by
    have := hn s
    have hp := viewW_pos r
    refine fit_tup (k := 2 * r + 2) (w := 4 * (viewW r + 1)) (n := 2) (fun x hx => ?_) (Nat.le_refl _) (Nat.le_refl _) (by omega)
    simp only [List.mem_cons, List.not_mem_nil, or_false] at hx
    rcases hx with rfl | rfl
    · exact fit_int (by omega) (by omega)
    · refine fit_tup (k := 2 * r + 1) (w := viewW r) (n := 4) (fun x hx => ?_) (by rw [List.length_map, List.length_range]; exact hc) (Nat.le_refl _) (Nat.le_refl _)
      obtain ⟨i, _, rfl⟩ := List.mem_map.mp hx
      split
      · exact fit_non
      · exact fit_tree hn hc r _ _
theorem viewW_le {i : Nat} (h : i ≤ 4) : viewW i ≤ 1048576 := by
  have : i = 0 ∨ i = 1 ∨ i = 2 ∨ i = 3 ∨ i = 4 := by omega
  rcases this with rfl | rfl | rfl | rfl | rfl <;> decide
end
/-! ### reach_of, shortened, backward -/
def tReachOf : S3 :=
    (s3Seq (s3Asg (e3C (.int 0)) 1)
    (s3Seq (s3While (t3Test (e3Op r3Eq (e3CB c3Len (a3Cons (e3Var 0) a3Nil)) (e3C (.int 2)))) (s3Seq (s3Asg (e3Op r3Add (e3Var 1) (e3C (.int 1))) 1)
    (s3Asg (e3Op r3Ix (e3Lc (i3Seq (e3Op r3Ix (e3Var 0) (e3C (.int 1)))) 2 (t3Test (e3Op r3IsNot (e3Var 2) (e3C .non))) (e3Var 2) [2]) (e3C (.int 0))) 0)))
    (s3Ret (e3Var 1))))
def spReachOf (S : Type) : Sp3 := fun ds M Q _ => ∃ (num : S → Int) (nx : S → Int → S) (cs r : Nat) (s : S) (b : Int), ds = [treeG num nx cs r s b] ∧ 2 ≤ cs ∧ cs ≤ 1000 ∧ Q (.int (r : Int)) M
theorem first_part {S : Type} {num : S → Int} {nx : S → Int → S} {cs r : Nat} {s : S} {b : Int} (hc : 2 ≤ cs) : ∃ s' b', atI ((((List.range cs).map (partG num nx cs r s b)).filter fun d => !isNonD d).map id) ((0 : Nat) : Int) = some (treeG num nx cs r s' b') := by
  generalize hL : ((List.range cs).map (partG num nx cs r s b)).filter (fun d => !isNonD d) = L
  have mem : ∀ x ∈ L, ∃ s' b', x = treeG num nx cs r s' b' := fun x hx => by
    rw [← hL, List.mem_filter] at hx
    obtain ⟨c, _, rfl⟩ := List.mem_map.mp hx.1
    by_cases h : (c : Int) + 1 = b
    · rw [part_out h] at hx
      exact absurd hx.2 (by decide)
    · exact ⟨_, _, part_in h⟩
  have some_ : L ≠ [] := by
    have pick : ∃ c, c < cs ∧ (c : Int) + 1 ≠ b := by
      by_cases h : ((0 : Nat) : Int) + 1 = b
      · exact ⟨1, by omega, by omega⟩
      · exact ⟨0, by omega, h⟩
    obtain ⟨c, h1, h2⟩ := pick
    have : partG num nx cs r s b c ∈ L := by
      rw [← hL, List.mem_filter]
      refine ⟨List.mem_map.mpr ⟨c, List.mem_range.mpr h1, rfl⟩, ?_⟩
      rw [part_in h2, tree_not_non]
      rfl
    intro z
    rw [z] at this
    simp at this
  match L, some_, mem with
  | x :: L, _, mem =>
    obtain ⟨s', b', rfl⟩ := mem x List.mem_cons_self
    exact ⟨s', b', atI_nat rfl⟩
theorem rdReachOf {S : Type} : Rd3 ["view", "reach", "part"] tReachOf (spReachOf S) := by
  rintro ds M Q E ⟨num, nx, cs, r, s, b, rfl, c2, c3, q⟩
  refine ⟨fun n env' M' => ∃ s' b' s2, n ≤ r ∧ env' = [some (treeG num nx cs n s' b'), some (.int ((r : Int) - (n : Int))), s2] ∧ Sub M M', ⟨r, s, b, none, Nat.le_refl _, by rw [Int.sub_self]; rfl, Sub.refl M⟩, ?_⟩
  rintro n env' M' ⟨s', b', s2, hn, rfl, sub⟩
  cases n with
  | zero =>
    refine eq_int (Br.no rfl ⟨M, sub, ?_⟩)
    rw [show (r : Int) - ((0 : Nat) : Int) = (r : Int) by omega]
    exact q
  | succ n =>
    refine eq_int (Br.yes rfl ?_)
    refine ⟨.tup ((List.range cs).map (partG num nx cs n s' b')), rfl, fun p np => ?_⟩
    refine lcFilter (fun d => !isNonD d) id np (fun _ _ => trivial) (fun k d M2 R hd s2 k2 => k2 M2 (Sub.refl _)) (fun k d M2 R hd hb s2 k2 => k2 M2 (Sub.refl _)) (szLt (by rw [List.length_map, List.length_range]; omega)) fun M2 s3 h2 => ?_
    obtain ⟨s'', b'', hat⟩ := first_part (num := num) (nx := nx) (r := n) (s := s') (b := b') c2
    refine ⟨_, _, .inl h2, hat, n, Nat.lt_succ_self n, s'', b'', s2, by omega, ?_, sub.trans s3⟩
    rw [show (r : Int) - ((n + 1 : Nat) : Int) + 1 = (r : Int) - (n : Int) by omega]
    rfl
def tShortened (sf : Sp3) : S3 :=
    (s3Seq (s3If (t3Test (e3Op r3Eq (e3Var 1) (e3C (.int 0)))) (s3Ret (e3Tup (a3Cons (e3Op r3Ix (e3Var 0) (e3C (.int 0))) a3Nil))) s3Nil)
    (s3Ret (e3Tup (a3Cons (e3Op r3Ix (e3Var 0) (e3C (.int 0))) (a3Cons (e3TupOf (e3Lc (i3Seq (e3Op r3Ix (e3Var 0) (e3C (.int 1)))) 2 t3Yes (e3If (t3Test (e3Op r3Is (e3Var 2) (e3C .non))) (e3C .non) (e3Call sf (a3Cons (e3Var 2) (a3Cons (e3Op r3Sub (e3Var 1) (e3C (.int 1))) a3Nil)))) [2])) a3Nil)))))
def spShort (S : Type) (n : Nat) : Sp3 := fun ds M Q _ => ∃ (num : S → Int) (nx : S → Int → S) (cs r m : Nat) (s : S) (b : Int), ds = [treeG num nx cs r s b, .int (m : Int)] ∧ cs ≤ 1000 ∧ m ≤ r ∧ m ≤ n ∧ Q (treeG num nx cs m s b) M
theorem tree_num {S : Type} {num : S → Int} {nx : S → Int → S} {cs r : Nat} {s : S} {b : Int} : ∃ ds, treeG num nx cs r s b = .tup ds ∧ atI ds 0 = some (.int (num s)) := by cases r <;> exact ⟨_, rfl, rfl⟩
theorem rdShortened {S : Type} {n : Nat} {sf : Sp3} (hf : n = 0 ∨ ∃ j, n = j + 1 ∧ sf = spShort S j) : Rd3 ["branch", "reach", "part"] (tShortened sf) (spShort S n) := by
  rintro ds M Q E ⟨num, nx, cs, r, m, s, b, rfl, c3, hm, hn, q⟩
  obtain ⟨xs, e0, h0⟩ := tree_num (num := num) (nx := nx) (cs := cs) (r := r) (s := s) (b := b)
  conv => whnf
  refine eq_int ⟨fun e => ?_, fun e => ?_⟩
  · have m0 : m = 0 := by have := of_decide_eq_true e; omega
    subst m0
    rw [e0]
    exact ⟨_, h0, szLe (by show 1 ≤ 1000000; decide), M, Sub.refl _, q⟩
  have mp : m ≠ 0 := fun z => by subst z; exact of_decide_eq_false e rfl
  obtain ⟨m, rfl⟩ := Nat.exists_eq_succ_of_ne_zero mp
  obtain ⟨r, rfl⟩ := Nat.exists_eq_succ_of_ne_zero (show r ≠ 0 by omega)
  obtain ⟨j, rfl, rfl⟩ : ∃ j, n = j + 1 ∧ sf = spShort S j := by
    rcases hf with h | h
    · omega
    · exact h
  refine ⟨_, rfl, _, rfl, fun p np => ?_⟩
  refine lcIdx (partG num nx cs m s b) np (fun _ _ => trivial) (fun k d M' R hd s1 k2 => ?_) (szLt (by rw [List.length_map, List.length_range]; omega)) fun M1 s1 h1 => ?_
  · have hd' : ((List.range cs).map (partG num nx cs r s b))[k]? = some d := hd
    clear hd
    obtain ⟨hk, rfl⟩ := range_get hd'
    have k3 := k2 M' (Sub.refl _)
    change R (partG num nx cs m s b k) M' at k3
    show Br (isNonD (partG num nx cs r s b k)) _ _
    by_cases hb : (k : Int) + 1 = b
    · rw [part_out hb] at k3 ⊢
      exact Br.tt k3
    · rw [part_in hb] at k3 ⊢
      refine Br.no tree_not_non ⟨num, nx, cs, r, m, _, _, ?_, c3, by omega, by omega, k3⟩
      rw [show ((m.succ : Nat) : Int) - 1 = (m : Int) by omega]
  · rw [List.length_map, List.length_range] at h1
    exact ⟨_, .inl h1, szLe (by show 2 ≤ 1000000; decide), M, s1, q⟩
def tBackward (sS : Sp3) : S3 :=
    (s3Seq (s3If (t3Test (e3Op r3Eq (e3Var 2) (e3C (.int 0)))) (s3Ret (e3Tup (a3Cons (e3Op r3Ix (e3Var 0) (e3C (.int 0))) a3Nil))) s3Nil)
    (s3Seq (s3Asg (e3Lst a3Nil) 3)
    (s3Seq (s3For (i3Enum (a3Cons (e3Op r3Ix (e3Var 0) (e3C (.int 1))) a3Nil)) (g3Tup 2 (g3sCons (g3Name 4) (g3sCons (g3Name 5) g3sNil))) (s3Expr (e3Bm m3App (e3Var 3) (a3Cons (e3If (t3Test (e3Op r3Eq (e3Var 4) (e3Op r3Sub (e3Var 1) (e3C (.int 1))))) (e3C .non) (e3Call sS (a3Cons (e3Var 5) (a3Cons (e3Op r3Sub (e3Var 2) (e3C (.int 1))) a3Nil)))) a3Nil))))
    (s3Ret (e3Tup (a3Cons (e3Op r3Ix (e3Var 0) (e3C (.int 0))) (a3Cons (e3TupOf (e3Var 3)) a3Nil)))))))
def spBackward (S : Type) (n : Nat) : Sp3 := fun ds M Q _ => ∃ (num : S → Int) (nx : S → Int → S) (cs r m : Nat) (s : S) (c : Nat), ds = [treeG num nx cs r s 0, .int ((c : Int) + 1), .int (m : Int)] ∧ cs ≤ 1000 ∧ m ≤ r ∧ m ≤ n + 1 ∧ Q (treeG num nx cs m s ((c : Int) + 1)) M
theorem rdBackward {S : Type} {n : Nat} : Rd3 ["view", "colour", "reach", "parts", "at", "part"] (tBackward (spShort S n)) (spBackward S n) := by
  rintro ds M Q E ⟨num, nx, cs, r, m, s, c, rfl, c3, hm, hn, q⟩
  obtain ⟨xs, e0, h0⟩ := tree_num (num := num) (nx := nx) (cs := cs) (r := r) (s := s) (b := 0)
  conv => whnf
  refine eq_int ⟨fun e => ?_, fun e => ?_⟩
  · have m0 : m = 0 := by have := of_decide_eq_true e; omega
    subst m0
    rw [e0]
    exact ⟨_, h0, szLe (by show 1 ≤ 1000000; decide), M, Sub.refl _, q⟩
  have mp : m ≠ 0 := fun z => by subst z; exact of_decide_eq_false e rfl
  obtain ⟨m, rfl⟩ := Nat.exists_eq_succ_of_ne_zero mp
  obtain ⟨r, rfl⟩ := Nat.exists_eq_succ_of_ne_zero (show r ≠ 0 by omega)
  refine ⟨szLe (by simp), fun w nw => ⟨_, rfl, ?_⟩⟩
  refine ⟨fun i env' M' => ∃ s4 s5, env' = [some (treeG num nx cs (r + 1) s 0), some (.int ((c : Int) + 1)), some (.int ((m + 1 : Nat) : Int)), some (.ref w), s4, s5] ∧ Sub M M' ∧ M' w = some (.lst ((List.range i).map (partG num nx cs m s ((c : Int) + 1)))), ⟨none, none, rfl, (Sub.refl M).new nw, updM_same⟩, ?_, ?_⟩
  · rintro i d env' M' hd ⟨s4, s5, rfl, sub, hw⟩
    obtain ⟨x, hx, rfl⟩ := enumD_get hd
    have hx' : ((List.range cs).map (partG num nx cs r s 0))[i]? = some x := hx
    clear hd hx
    obtain ⟨hi, rfl⟩ := range_get hx'
    rw [Nat.zero_add]
    have hz : ((List.range i).map (partG num nx cs m s ((c : Int) + 1))).length < sizeLine := szLt (by rw [List.length_map, List.length_range]; omega)
    refine ⟨trivial, rfl, rfl, ⟨_, .inl hw⟩, ?_⟩
    conv => whnf
    rw [show ((c : Int) + 1) - 1 = (c : Int) by omega]
    refine eq_int ⟨fun e => ?_, fun e => ?_⟩
    · have ec : i = c := by have := of_decide_eq_true e; omega
      exact ⟨_, hw, hz, _, _, rfl, sub.new nw, by rw [updM_same, parts_app (part_out (by omega))]⟩
    · have ec : i ≠ c := by have := of_decide_eq_false e; omega
      rw [part_in (show (i : Int) + 1 ≠ 0 by omega)]
      refine ⟨num, nx, cs, r, m, nx s ((i : Int) + 1), (i : Int) + 1, ?_, c3, by omega, by omega, _, hw, hz, _, _, rfl, sub.new nw, ?_⟩
      · rw [show ((m + 1 : Nat) : Int) - 1 = (m : Int) by omega]
      · rw [updM_same, parts_app (part_in (by omega))]
  · rintro env' M' ⟨s4, s5, rfl, sub, hw⟩
    rw [enumD_length, List.length_map, List.length_range] at hw
    exact ⟨trivial, _, rfl, _, .inl hw, szLe (by show 2 ≤ 1000000; decide), M, sub, q⟩
end L3

namespace My
open PySem PySem.Spec PyProof.Rows L2 L3

def topS (i : Nat) : Stmt := PySem.Challenge.pw_looksfar_k06_is_view.main.body.getD i (.Pass ⟨0, 0, 0, 0⟩)
abbrev s_check_reach : Stmt := topS 5
abbrev N_check_reach : List Str := ["reach"]
theorem sc_check_reach : FnScope N_check_reach ["reach"] (defScope s_check_reach) := ⟨rfl, rfl, rfl, by decide +kernel, rfl, by decide +kernel, by decide +kernel⟩
abbrev s_is_branch : Stmt := topS 6
abbrev N_is_branch : List Str := ["value", "D", "own", "other", "reach", "colour", "at", "part"]
theorem sc_is_branch : FnScope N_is_branch ["value", "D", "own", "other", "reach", "colour"] (defScope s_is_branch) := ⟨rfl, rfl, rfl, by decide +kernel, rfl, by decide +kernel, by decide +kernel⟩
abbrev s_is_view : Stmt := topS 7
abbrev N_is_view : List Str := ["value", "D", "own", "other", "reach"]
theorem sc_is_view : FnScope N_is_view ["value", "D", "own", "other", "reach"] (defScope s_is_view) := ⟨rfl, rfl, rfl, by decide +kernel, rfl, by decide +kernel, by decide +kernel⟩
abbrev s_law_draws : Stmt := topS 9
abbrev N_law_draws : List Str := ["script", "many", "rests", "draws", "k", "cell", "mixed", "at"]
theorem sc_law_draws : FnScope N_law_draws ["script", "many"] (defScope s_law_draws) := ⟨rfl, rfl, rfl, by decide +kernel, rfl, by decide +kernel, by decide +kernel⟩
abbrev s_law_take : Stmt := topS 10
abbrev N_law_take : List Str := ["hand", "many", "at", "draws"]
theorem sc_law_take : FnScope N_law_take ["hand", "many"] (defScope s_law_take) := ⟨rfl, rfl, rfl, by decide +kernel, rfl, by decide +kernel, by decide +kernel⟩
abbrev s_law_integer : Stmt := topS 11
abbrev N_law_integer : List Str := ["value"]
theorem sc_law_integer : FnScope N_law_integer ["value"] (defScope s_law_integer) := ⟨rfl, rfl, rfl, by decide +kernel, rfl, by decide +kernel, by decide +kernel⟩
abbrev s_law_drawn : Stmt := topS 12
abbrev N_law_drawn : List Str := ["hand", "colours", "own", "other", "reach", "back", "parts", "colour"]
theorem sc_law_drawn : FnScope N_law_drawn ["hand", "colours", "own", "other", "reach", "back"] (defScope s_law_drawn) := ⟨rfl, rfl, rfl, by decide +kernel, rfl, by decide +kernel, by decide +kernel⟩
abbrev s_law_right : Stmt := topS 13
abbrev N_law_right : List Str := ["value", "colours", "own", "other", "reach", "back", "colour", "part"]
theorem sc_law_right : FnScope N_law_right ["value", "colours", "own", "other", "reach", "back"] (defScope s_law_right) := ⟨rfl, rfl, rfl, by decide +kernel, rfl, by decide +kernel, by decide +kernel⟩
abbrev s_law_here : Stmt := topS 14
abbrev N_law_here : List Str := ["hand", "value", "own", "shape", "rest", "parts", "at", "k"]
theorem sc_law_here : FnScope N_law_here ["hand", "value", "own"] (defScope s_law_here) := ⟨rfl, rfl, rfl, by decide +kernel, rfl, by decide +kernel, by decide +kernel⟩
abbrev s_law_changed : Stmt := topS 15
abbrev N_law_changed : List Str := ["hand", "value", "own", "other", "depth", "at", "part", "made"]
theorem sc_law_changed : FnScope N_law_changed ["hand", "value", "own", "other", "depth"] (defScope s_law_changed) := ⟨rfl, rfl, rfl, by decide +kernel, rfl, by decide +kernel, by decide +kernel⟩
abbrev s_law_value : Stmt := topS 16
abbrev N_law_value : List Str := ["hand", "colours", "own", "other", "reach", "shape", "value"]
theorem sc_law_value : FnScope N_law_value ["hand", "colours", "own", "other", "reach"] (defScope s_law_value) := ⟨rfl, rfl, rfl, by decide +kernel, rfl, by decide +kernel, by decide +kernel⟩
abbrev s_law_refused : Stmt := topS 17
abbrev N_law_refused : List Str := ["value", "colours", "own", "other", "reach"]
theorem sc_law_refused : FnScope N_law_refused ["value", "colours", "own", "other", "reach"] (defScope s_law_refused) := ⟨rfl, rfl, rfl, by decide +kernel, rfl, by decide +kernel, by decide +kernel⟩
abbrev s_law_all : Stmt := topS 18
abbrev N_law_all : List Str := ["script", "hand", "k", "view", "answer", "colours", "own", "other", "reach", "value", "kept", "due", "again", "wrong"]
theorem sc_law_all : FnScope N_law_all ["script"] (defScope s_law_all) := ⟨rfl, rfl, rfl, by decide +kernel, rfl, by decide +kernel, by decide +kernel⟩
abbrev s_law : Stmt := topS 19
abbrev N_law : List Str := ["script"]
theorem sc_law : FnScope N_law ["script"] (defScope s_law) := ⟨rfl, rfl, rfl, by decide +kernel, rfl, by decide +kernel, by decide +kernel⟩
structure Gm where
  K : Fg
  LookError : Addr
  BadReach : Addr
structure Txt (G : Gm) (mg : Str → Option Value) : Prop where
  nol : noList G.K = true
  n_abs : mg "abs" = none
  n_bool : mg "bool" = none
  n_enumerate : mg "enumerate" = none
  n_int : mg "int" = none
  n_isinstance : mg "isinstance" = none
  n_len : mg "len" = none
  n_list : mg "list" = none
  n_max : mg "max" = none
  n_range : mg "range" = none
  n_repr : mg "repr" = none
  n_tuple : mg "tuple" = none
  c_MOST_SEEN : Cst mg "MOST_SEEN" (.int 4)
  x_LookError : ExcT G.K mg "LookError" G.LookError
  x_BadReach : ExcT G.K mg "BadReach" G.BadReach
  e_BadReach_BadReach : PySem.W.exmOne G.K (.ref G.BadReach) (.ref G.BadReach) = some true
  e_BadReach_LookError : PySem.W.exmOne G.K (.ref G.BadReach) (.ref G.LookError) = some true
  e_LookError_BadReach : PySem.W.exmOne G.K (.ref G.LookError) (.ref G.BadReach) = some false
  e_LookError_LookError : PySem.W.exmOne G.K (.ref G.LookError) (.ref G.LookError) = some true
end My

namespace My
open PySem PySem.Spec PyProof.Rows L2 L3
/-! ### values whose parts are known -/
mutual
def Vk (M : MH) : D → Prop
  | .tup ds => Vks M ds
  | .ref a => (∃ ds, LstM M a ds) ∨ ∃ kvs, M a = some (.dK kvs)
  | .ty _ => False
  | .non => True
  | .bl _ => True
  | .int _ => True
  | .str _ => True
def Vks (M : MH) : List D → Prop
  | [] => True
  | d :: ds => Vk M d ∧ Vks M ds
end
theorem vks_get {M : MH} : ∀ {ds : List D} {i : Nat} {x : D}, Vks M ds → ds[i]? = some x → Vk M x
  | [], _, _, _, e => by simp at e
  | d :: ds, 0, x, h, e => by
    simp only [Vks] at h
    simp at e
    subst e
    exact h.1
  | d :: ds, i + 1, x, h, e => by
    simp only [Vks] at h
    exact vks_get (i := i) h.2 (by simpa using e)
theorem vk_ty {M : MH} {d : D} (h : Vk M d) : TyKnown M d := by
  cases d with
  | ref a =>
    simp only [Vk] at h
    rcases h with ⟨ds, e⟩ | ⟨kvs, e⟩
    · exact lst_known e
    · exact ⟨"dict", .inr ⟨rfl, .inr ⟨kvs, e⟩⟩, .inr (.inr rfl), .inl ⟨a, rfl⟩⟩
  | ty n => simp only [Vk] at h
  | non => exact own_known trivial
  | bl b => exact own_known trivial
  | int i => exact own_known trivial
  | str x => exact own_known trivial
  | tup ds => exact own_known trivial
/-! ### the law's own look -/
def numOk : D → Int → Bool
  | .int v, own => decide (0 ≤ v) && decide (v < own)
  | _, _ => false
abbrev isNon : D → Bool := isNonD
def allAt (f : Nat → D → Bool) : Nat → List D → Bool
  | _, [] => true
  | k, x :: xs => f k x && allAt f (k + 1) xs
def brD : Nat → Int → Int → Int → Int → D → Bool
  | 0, _, own, _, _, d => match d with
    | .tup [x] => numOk x own
    | _ => false
  | r + 1, cs, own, other, back, d => match d with
    | .tup [x, .tup ds] => numOk x own && (decide ((ds.length : Int) = cs) && allAt (fun k y => if (k : Int) + 1 = back then isNon y else brD r cs other own ((k : Int) + 1) y) 0 ds)
    | _ => false
theorem allAt_true {f : Nat → D → Bool} : ∀ {ds : List D} {k : Nat}, (∀ j x, ds[j]? = some x → f (k + j) x = true) → allAt f k ds = true
  | [], _, _ => rfl
  | d :: ds, k, h => by
    have h0 : f k d = true := h 0 d (by simp)
    have h1 : allAt f (k + 1) ds = true := allAt_true (fun j x e => by
      have := h (j + 1) x (by simpa using e)
      rwa [show k + (j + 1) = k + 1 + j by omega] at this)
    simp only [allAt, h0, h1, Bool.and_self]
theorem allAt_false {f : Nat → D → Bool} : ∀ {ds : List D} {k j : Nat} {x : D}, ds[j]? = some x → f (k + j) x = false → allAt f k ds = false
  | [], _, _, _, e, _ => by simp at e
  | d :: ds, k, 0, x, e, h => by
    simp at e
    subst e
    have h' : f k d = false := h
    simp only [allAt, h', Bool.false_and]
  | d :: ds, k, j + 1, x, e, h => by
    have h1 : allAt f (k + 1) ds = false := allAt_false (j := j) (x := x) (by simpa using e) (by rwa [show k + (j + 1) = k + 1 + j by omega] at h)
    simp only [allAt, h1, Bool.and_false]
/-! ### a view by the law's look: its shape, and that it may be shown -/
theorem num_inv {x : D} {own : Int} (h : numOk x own = true) : ∃ v : Int, x = .int v ∧ 0 ≤ v ∧ v < own := by
  cases x with
  | int v =>
    have h' : (decide (0 ≤ v) && decide (v < own)) = true := h
    simp at h'
    exact ⟨v, rfl, h'.1, h'.2⟩
  | _ => exact nomatch h
theorem non_inv {x : D} (h : isNon x = true) : x = .non := by
  cases x with
  | non => rfl
  | _ => exact nomatch h
theorem allAt_get {f : Nat → D → Bool} : ∀ {ds : List D} {k j : Nat} {x : D}, allAt f k ds = true → ds[j]? = some x → f (k + j) x = true
  | [], _, _, _, _, e => by simp at e
  | d :: ds, k, 0, x, h, e => by
    simp only [allAt, Bool.and_eq_true] at h
    simp at e
    subst e
    exact h.1
  | d :: ds, k, j + 1, x, h, e => by
    simp only [allAt, Bool.and_eq_true] at h
    have := allAt_get (j := j) (x := x) h.2 (by simpa using e)
    rwa [show k + 1 + j = k + (j + 1) by omega] at this
theorem view_zero {cs own other back : Int} {d : D} (h : brD 0 cs own other back d = true) : ∃ v : Int, d = .tup [.int v] ∧ 0 ≤ v ∧ v < own := by
  cases d with
  | tup zs =>
    match zs, h with
    | [], h => exact nomatch h
    | x :: y :: zs, h => exact nomatch h
    | [x], h =>
      obtain ⟨v, rfl, h0, h1⟩ := num_inv h
      exact ⟨v, rfl, h0, h1⟩
  | _ => exact nomatch h
theorem view_succ {r : Nat} {cs own other back : Int} {d : D} (h : brD (r + 1) cs own other back d = true) : ∃ (v : Int) (ds : List D), d = .tup [.int v, .tup ds] ∧ 0 ≤ v ∧ v < own ∧ (ds.length : Int) = cs ∧
    ∀ (j : Nat) (x : D), ds[j]? = some x → ((j : Int) + 1 = back ∧ x = .non) ∨ (¬ (j : Int) + 1 = back ∧ brD r cs other own ((j : Int) + 1) x = true) := by
  cases d with
  | tup zs =>
    match zs, h with
    | [], h => exact nomatch h
    | [x], h => exact nomatch h
    | x :: y :: z :: zs, h => cases y <;> exact nomatch h
    | [x, y], h =>
      cases y with
      | tup ds =>
        have h' : (numOk x own && (decide ((ds.length : Int) = cs) && allAt (fun k y => if (k : Int) + 1 = back then isNon y else brD r cs other own ((k : Int) + 1) y) 0 ds)) = true := h
        rw [Bool.and_eq_true, Bool.and_eq_true] at h'
        obtain ⟨v, rfl, h0, h1⟩ := num_inv h'.1
        refine ⟨v, ds, rfl, h0, h1, of_decide_eq_true h'.2.1, fun j x hx => ?_⟩
        have g := allAt_get h'.2.2 hx
        rw [Nat.zero_add] at g
        by_cases e : (j : Int) + 1 = back
        · rw [if_pos e] at g
          exact .inl ⟨e, non_inv g⟩
        · rw [if_neg e] at g
          exact .inr ⟨e, g⟩
      | _ => exact nomatch h
  | _ => exact nomatch h
theorem fit_view {cs : Int} (hc : cs ≤ 4) : ∀ (r : Nat) (own other back : Int) (d : D), own ≤ 4 → other ≤ 4 → brD r cs own other back d = true → Fit (2 * r + 1) (viewW r) d
  | 0, own, other, back, d, h1, h2, h => by
    obtain ⟨v, rfl, v0, v1⟩ := view_zero h
    refine fit_tup (k := 0) (w := 30) (n := 1) (fun x hx => ?_) (Nat.le_refl _) (by decide) (by decide)
    rw [List.mem_singleton] at hx
    subst hx
    exact fit_int (by omega) (Nat.le_refl _)
  | r + 1, own, other, back, d, h1, h2, h => by
    obtain ⟨v, ds, rfl, v0, v1, hl, hd⟩ := view_succ h
    have hp := viewW_pos r
    refine fit_tup (k := 2 * r + 2) (w := 4 * (viewW r + 1)) (n := 2) (fun x hx => ?_) (Nat.le_refl _) (Nat.le_refl _) (by omega)
    simp only [List.mem_cons, List.not_mem_nil, or_false] at hx
    rcases hx with rfl | rfl
    · exact fit_int (by omega) (by omega)
    · refine fit_tup (k := 2 * r + 1) (w := viewW r) (n := 4) (fun x hx => ?_) (by omega) (Nat.le_refl _) (Nat.le_refl _)
      obtain ⟨j, hj⟩ := List.getElem?_of_mem hx
      rcases hd j x hj with ⟨_, rfl⟩ | ⟨_, hb⟩
      · exact fit_non
      · exact fit_view hc r other own _ x h2 h1 hb
/-! ### values with lists in them -/
mutual
def bigP : PyData → Bool
  | .none | .bool _ => true
  | .int i => decide (i.natAbs < 1000000000000000000000)
  | .str x => x.cps.toList.all fun c => decide (c < 16 ^ 8)
  | .list xs | .tuple xs => bigPs xs
  | .dict _ => false
def bigPs : List PyData → Bool
  | [] => true
  | x :: xs => bigP x && bigPs xs
end
mutual
theorem big_show : ∀ p : PyData, bigP p = true → p.showable = true ∧ p.hasDict = false ∧ p.leavesShort 22 = true
  | .none, _ => ⟨rfl, rfl, rfl⟩
  | .bool _, _ => ⟨rfl, rfl, rfl⟩
  | .int i, h => by
    have h' : i.natAbs < 1000000000000000000000 := by simpa [bigP] using h
    refine ⟨?_, by simp [PyData.hasDict], ?_⟩
    · simp only [PyData.showable, decide_eq_true_eq]
      have : i.natAbs.log2 < 70 := by
        by_cases h0 : i.natAbs = 0
        · rw [h0]; decide
        · exact (Nat.log2_lt h0).mpr (by omega)
      omega
    · simp only [PyData.leavesShort, decide_eq_true_eq]
      have e2 : (PyData.int i).shown.length = (toString i).length := by
        show (Str.ofString (toString i)).length = _
        exact PySem.ofString_length _
      rw [e2]
      exact int_text_length_le10 (k := 21) (by decide) h'
  | .str x, h => ⟨by simp [PyData.showable], by simp [PyData.hasDict], by simpa only [PyData.leavesShort, bigP] using h⟩
  | .list xs, h => by
    obtain ⟨a, b, c⟩ := bigs_show xs (by simpa [bigP] using h)
    exact ⟨by simpa [PyData.showable] using a, by simpa [PyData.hasDict] using b, by simpa [PyData.leavesShort] using c⟩
  | .tuple xs, h => by
    obtain ⟨a, b, c⟩ := bigs_show xs (by simpa [bigP] using h)
    exact ⟨by simpa [PyData.showable] using a, by simpa [PyData.hasDict] using b, by simpa [PyData.leavesShort] using c⟩
  | .dict _, h => by simp [bigP] at h
theorem bigs_show : ∀ ps : List PyData, bigPs ps = true → PyData.showableAll ps = true ∧ PyData.hasDictAll ps = false ∧ PyData.leavesShortAll 22 ps = true
  | [], _ => by simp [PyData.showableAll, PyData.hasDictAll, PyData.leavesShortAll]
  | x :: xs, h => by
    have h' : bigP x = true ∧ bigPs xs = true := by simpa [bigPs] using h
    obtain ⟨a, b, c⟩ := big_show x h'.1
    obtain ⟨a', b', c'⟩ := bigs_show xs h'.2
    simp [PyData.showableAll, PyData.hasDictAll, PyData.leavesShortAll, a, b, c, a', b', c']
end
theorem shw_big {p : PyData} (h : bigP p = true) (hd : p.depth ≤ 100) (hw : p.weight ≤ 524288) : Shw p := by
  obtain ⟨a, b, c⟩ := big_show p h
  have := PyData.shown_le 22 (by decide) p c
  refine ⟨a, b, hd, ?_⟩
  have e : sizeLine = 16777216 := by decide
  rw [e]
  omega
mutual
theorem small_big : ∀ p : PyData, smallP p = true → bigP p = true
  | .none, _ => by simp [bigP]
  | .bool _, _ => by simp [bigP]
  | .int i, h => by
    have h' : i.natAbs < 1000000000 := by simpa [smallP] using h
    simp only [bigP, decide_eq_true_eq]
    omega
  | .str x, h => by simpa only [bigP, smallP] using h
  | .list xs, h => by
    simp only [bigP]
    exact smalls_big xs (by simpa only [smallP] using h)
  | .tuple xs, h => by
    simp only [bigP]
    exact smalls_big xs (by simpa only [smallP] using h)
  | .dict _, h => by simp [smallP] at h
theorem smalls_big : ∀ ps : List PyData, smallPs ps = true → bigPs ps = true
  | [], _ => by simp [bigPs]
  | x :: xs, h => by
    have h' : smallP x = true ∧ smallPs xs = true := by simpa [smallPs] using h
    simp only [bigPs, small_big x h'.1, smalls_big xs h'.2, Bool.and_self]
end
/-- the heap without the hand -/
def rest (M : MH) (h : Addr) : MH := fun b => if b = h then none else M b
theorem rest_set {M : MH} {h d : Addr} {n : Int} : rest (setH M h d n) h = rest M h := by
  funext b
  unfold rest
  split
  · rfl
  · rename_i e
    exact setH_ne e
theorem rest_sub {M M' : MH} {h : Addr} (s : Sub M M') : Sub (rest M h) (rest M' h) := fun b o e => by
  unfold rest at e ⊢
  split at e
  · cases e
  · rename_i hb
    rw [if_neg hb]
    exact s b o e
theorem rest_in {M : MH} {h : Addr} : Sub (rest M h) M := fun b o e => by
  unfold rest at e
  split at e
  · cases e
  · exact e
mutual
theorem py_mono {M M' : MH} (s : Sub M M') : ∀ (p : PyData) (d : D), Py M d p → Py M' d p
  | .none, _, h => by cases h; exact .non
  | .bool b, _, h => by cases h; exact .bl b
  | .int i, _, h => by cases h; exact .int i
  | .str x, _, h => by cases h; exact .str x
  | .tuple ps, _, h => by
    cases h with
    | tup r => exact .tup (pys_mono s ps _ r)
  | .list ps, _, h => by
    cases h with
    | ref l r => exact .ref (l.imp (s _ _) (s _ _)) (pys_mono s ps _ r)
  | .dict _, _, h => by cases h
theorem pys_mono {M M' : MH} (s : Sub M M') : ∀ (ps : List PyData) (ds : List D), Pys M ds ps → Pys M' ds ps
  | [], _, h => by cases h; exact .nil
  | p :: ps, _, h => by
    cases h with
    | cons a b => exact .cons (py_mono s p _ a) (pys_mono s ps _ b)
end
/-- a value that may be shown -/
structure Shn (k w : Nat) (M : MH) (d : D) (p : PyData) : Prop where
  py : Py M d p
  bg : bigP p = true
  dp : p.depth ≤ k
  wt : p.weight ≤ w
theorem Shn.mono {k w k' w' : Nat} {M M' : MH} {d : D} {p : PyData} (h : Shn k w M d p) (s : Sub M M') (hk : k ≤ k') (hw : w ≤ w') : Shn k' w' M' d p := ⟨py_mono s p d h.py, h.bg, Nat.le_trans h.dp hk, Nat.le_trans h.wt hw⟩
theorem shn_repr {M : MH} {Q : Q3} {d : D} {p : PyData} {k w : Nat} (h : Shn k w M d p) (q : Q (.str p.shown) M) (hk : k ≤ 100 := by decide) (hw : w ≤ 524288 := by decide) : c3ReprX [d] M Q :=
  .inl (repr_is h.py (shw_big h.bg (Nat.le_trans h.dp hk) (Nat.le_trans h.wt hw)) q)
mutual
theorem py_vk {M : MH} : ∀ (p : PyData) (d : D), Py M d p → Vk M d
  | .none, _, h => by cases h; simp [Vk]
  | .bool b, _, h => by cases h; simp [Vk]
  | .int i, _, h => by cases h; simp [Vk]
  | .str x, _, h => by cases h; simp [Vk]
  | .tuple ps, _, h => by
    cases h with
    | tup r =>
      simp only [Vk]
      exact pys_vk ps _ r
  | .list ps, _, h => by
    cases h with
    | ref l r =>
      simp only [Vk]
      exact .inl ⟨_, l⟩
  | .dict _, _, h => by cases h
theorem pys_vk {M : MH} : ∀ (ps : List PyData) (ds : List D), Pys M ds ps → Vks M ds
  | [], _, h => by cases h; simp [Vks]
  | p :: ps, _, h => by
    cases h with
    | cons a b =>
      simp only [Vks]
      exact ⟨py_vk p _ a, pys_vk ps _ b⟩
end
theorem shn_of {k w : Nat} {M : MH} {d : D} (h : Fit k w d) : Shn k w M d (pyOf d) := ⟨py_of d h.pu, small_big _ h.sm, h.dp, h.wt⟩
/-- what a view weighs at most, and what a changed one does -/
def sW : Nat → Nat
  | 0 => 6
  | r + 1 => 8 * sW r + 13
def vW : Nat → Nat
  | 0 => 120
  | r + 1 => 8 * vW r + 13
theorem vW_le {r : Nat} (h : r ≤ 4) : vW r ≤ 524288 := by
  have : r = 0 ∨ r = 1 ∨ r = 2 ∨ r = 3 ∨ r = 4 := by omega
  rcases this with rfl | rfl | rfl | rfl | rfl <;> decide
theorem vW_big : ∀ r : Nat, 10 * sW r + 60 ≤ vW r
  | 0 => by decide
  | r + 1 => by
    have := vW_big r
    show 10 * (8 * sW r + 13) + 60 ≤ 8 * vW r + 13
    omega
theorem sW_pos : ∀ r : Nat, 6 ≤ sW r
  | 0 => by decide
  | r + 1 => by
    have := sW_pos r
    show 6 ≤ 8 * sW r + 13
    omega
theorem vW_mono : ∀ {r s : Nat}, r ≤ s → vW r ≤ vW s
  | r, 0, h => by rw [Nat.le_zero.mp h]; exact Nat.le_refl _
  | r, s + 1, h => by
    by_cases e : r = s + 1
    · rw [e]; exact Nat.le_refl _
    · have := vW_mono (r := r) (s := s) (by omega)
      show vW r ≤ 8 * vW s + 13
      omega
theorem sW_mono : ∀ {r s : Nat}, r ≤ s → sW r ≤ sW s
  | r, 0, h => by rw [Nat.le_zero.mp h]; exact Nat.le_refl _
  | r, s + 1, h => by
    by_cases e : r = s + 1
    · rw [e]; exact Nat.le_refl _
    · have := sW_mono (r := r) (s := s) (by omega)
      show sW r ≤ 8 * sW s + 13
      omega
section
variable {M : MH} {k w n : Nat}
theorem shn_non : Shn 0 0 M .non .none := ⟨.non, by simp [bigP], by simp [PyData.depth], by simp [PyData.weight]⟩
theorem shn_bl {b : Bool} : Shn 0 0 M (.bl b) (.bool b) := ⟨.bl b, by simp [bigP], by simp [PyData.depth], by simp [PyData.weight]⟩
theorem shn_int {i : Int} (h : i.natAbs < 1000000000000000000000) : Shn 0 70 M (.int i) (.int i) := by
  refine ⟨.int i, by simpa [bigP] using h, by simp [PyData.depth], ?_⟩
  simp only [PyData.weight]
  split
  · exact Nat.zero_le _
  · rename_i h0
    have h0' : i.natAbs ≠ 0 := by
      intro z
      exact h0 (by simpa using Int.natAbs_eq_zero.mp z)
    have := (Nat.log2_lt h0' (k := 70)).mpr (by omega)
    omega
theorem shn_small {i : Int} (h : i.natAbs < 16) : Shn 0 4 M (.int i) (.int i) := by
  refine ⟨.int i, by simp only [bigP, decide_eq_true_eq]; omega, by simp [PyData.depth], ?_⟩
  simp only [PyData.weight]
  split
  · exact Nat.zero_le _
  · rename_i h0
    have h0' : i.natAbs ≠ 0 := by
      intro z
      exact h0 (by simpa using Int.natAbs_eq_zero.mp z)
    have := (Nat.log2_lt h0' (k := 4)).mpr (by omega)
    omega
theorem shns : ∀ {ds : List D}, (∀ x ∈ ds, ∃ p, Shn k w M x p) → ∃ ps, Pys M ds ps ∧ bigPs ps = true ∧ PyData.depthAll ps ≤ k ∧ PyData.weightAll ps ≤ ds.length * (w + 1)
  | [], _ => ⟨[], .nil, by simp [bigPs], by simp [PyData.depthAll], by simp [PyData.weightAll]⟩
  | d :: ds, h => by
    obtain ⟨p, hp⟩ := h d List.mem_cons_self
    obtain ⟨ps, h1, h2, h3, h4⟩ := shns (ds := ds) fun x hx => h x (List.mem_cons_of_mem _ hx)
    refine ⟨p :: ps, .cons hp.py h1, by simp only [bigPs, hp.bg, h2, Bool.and_self], ?_, ?_⟩
    · have := hp.dp
      simp only [PyData.depthAll]
      omega
    · have := hp.wt
      simp only [PyData.weightAll, List.length_cons]
      have : (ds.length + 1) * (w + 1) = ds.length * (w + 1) + (w + 1) := by rw [Nat.add_mul, Nat.one_mul]
      omega
theorem shn_tup {ds : List D} (h : ∀ x ∈ ds, ∃ p, Shn k w M x p) (hl : ds.length ≤ n) {w' k' : Nat} (hw : n * (w + 1) + 1 ≤ w') (hk : k + 1 ≤ k') : ∃ p, Shn k' w' M (.tup ds) p := by
  obtain ⟨ps, h1, h2, h3, h4⟩ := shns h
  have h5 : ds.length * (w + 1) ≤ n * (w + 1) := Nat.mul_le_mul_right _ hl
  exact ⟨.tuple ps, .tup h1, by simpa only [bigP] using h2, by simp only [PyData.depth]; omega, by simp only [PyData.weight]; omega⟩
theorem shn_lst {a : Addr} {ds : List D} (ha : M a = some (.lst ds)) (h : ∀ x ∈ ds, ∃ p, Shn k w M x p) (hl : ds.length ≤ n) {w' k' : Nat} (hw : n * (w + 1) + 1 ≤ w') (hk : k + 1 ≤ k') : ∃ p, Shn k' w' M (.ref a) p := by
  obtain ⟨ps, h1, h2, h3, h4⟩ := shns h
  have h5 : ds.length * (w + 1) ≤ n * (w + 1) := Nat.mul_le_mul_right _ hl
  exact ⟨.list ps, .ref (.inl ha) h1, by simpa only [bigP] using h2, by simp only [PyData.depth]; omega, by simp only [PyData.weight]; omega⟩
end
theorem view_shn {M : MH} {cs : Int} (hc : cs ≤ 4) : ∀ (r : Nat) (own other back : Int) (d : D), own ≤ 4 → other ≤ 4 → brD r cs own other back d = true → ∃ p, Shn (2 * r + 1) (sW r) M d p
  | 0, own, other, back, d, h1, h2, h => by
    obtain ⟨v, rfl, v0, v1⟩ := view_zero h
    refine shn_tup (k := 0) (w := 4) (n := 1) (fun x hx => ?_) (Nat.le_refl _) (by decide) (by decide)
    rw [List.mem_singleton] at hx
    subst hx
    exact ⟨_, shn_small (by omega)⟩
  | r + 1, own, other, back, d, h1, h2, h => by
    obtain ⟨v, ds, rfl, v0, v1, hl, hd⟩ := view_succ h
    have hp := sW_pos r
    refine shn_tup (k := 2 * r + 2) (w := 4 * (sW r + 1) + 1) (n := 2) (fun x hx => ?_) (Nat.le_refl _) (by show _ ≤ 8 * sW r + 13; omega) (by omega)
    simp only [List.mem_cons, List.not_mem_nil, or_false] at hx
    rcases hx with rfl | rfl
    · exact ⟨_, (shn_small (by omega)).mono (Sub.refl M) (by omega) (by omega)⟩
    · refine shn_tup (k := 2 * r + 1) (w := sW r) (n := 4) (fun x hx => ?_) (by omega) (Nat.le_refl _) (Nat.le_refl _)
      obtain ⟨j, hj⟩ := List.getElem?_of_mem hx
      rcases hd j x hj with ⟨_, rfl⟩ | ⟨_, hb⟩
      · exact ⟨_, shn_non.mono (Sub.refl M) (by omega) (by omega)⟩
      · exact view_shn hc r other own _ x h2 h1 hb
theorem at_mem {ds : List D} {v : Int} (h0 : -(ds.length : Int) ≤ v) (h1 : v < ds.length) : ∃ x, atI ds v = some x ∧ x ∈ ds := by
  by_cases hv : 0 ≤ v
  · obtain ⟨j, rfl⟩ := Int.eq_ofNat_of_zero_le hv
    have hj : j < ds.length := by omega
    exact ⟨ds[j], atI_nat (List.getElem?_eq_getElem hj), List.getElem_mem hj⟩
  · have hj : (v + ds.length).toNat < ds.length := by omega
    refine ⟨ds[(v + ds.length).toNat], ?_, List.getElem_mem hj⟩
    unfold atI ixN
    rw [if_neg hv, if_pos h0]
    exact List.getElem?_eq_getElem hj
theorem mem_cut {ds : List D} {lo hi : Option Int} {x : D} (h : x ∈ L3.cutD ds lo hi) : x ∈ ds := List.mem_of_mem_drop (List.mem_of_mem_take h)
theorem cut_len {ds : List D} {lo hi : Option Int} : (L3.cutD ds lo hi).length ≤ ds.length := by
  unfold L3.cutD
  rw [List.length_take, List.length_drop]
  omega
theorem cut_put {ds : List D} {j : Nat} {y : D} (h : j < ds.length) : L3.cutD ds none (some (j : Int)) ++ [y] ++ L3.cutD ds (some ((j : Int) + 1)) none = ds.set j y := by
  unfold L3.cutD
  rw [show (j : Int) + 1 = ((j + 1 : Nat) : Int) by omega, HT.sIx_none, HT.sIx_none, HT.sIx_nat, HT.sIx_nat, Nat.min_eq_left (by omega), Nat.min_eq_left (by omega), List.drop_zero, Nat.sub_zero, List.set_eq_take_append_cons_drop, if_pos h]
  rw [List.take_of_length_le (l := ds.drop (j + 1)) (by rw [List.length_drop]; omega)]
  simp
theorem rest_at {M : MH} {h b : Addr} (e : b ≠ h) : rest M h b = M b := if_neg e
theorem view_parts {r : Nat} {cs own other back : Int} {d : D} (h : brD r cs own other back d = true) : ∃ (v : Int) (tl : List D), d = .tup (.int v :: tl) ∧ 0 ≤ v ∧ v < own ∧
    ((r = 0 ∧ tl = []) ∨ ∃ (j : Nat) (ds : List D), r = j + 1 ∧ tl = [.tup ds] ∧ (ds.length : Int) = cs ∧ ∀ (i : Nat) (x : D), ds[i]? = some x → ((i : Int) + 1 = back ∧ x = .non) ∨ (¬ (i : Int) + 1 = back ∧ brD j cs other own ((i : Int) + 1) x = true)) := by
  cases r with
  | zero =>
    obtain ⟨v, rfl, v0, v1⟩ := view_zero h
    exact ⟨v, [], rfl, v0, v1, .inl ⟨rfl, rfl⟩⟩
  | succ j =>
    obtain ⟨v, ds, rfl, v0, v1, hl, hd⟩ := view_succ h
    exact ⟨v, [.tup ds], rfl, v0, v1, .inr ⟨j, ds, rfl, rfl, hl, hd⟩⟩
/-- what may stand at a node -/
def hereL (own : Int) : List D := [.int own, .int (own + 3), .int (-1), .non, .str "0", .tup [.int 0], .int (own - 1), .int (10 ^ 20)]
theorem shn_str {M : MH} {x : Str} (h : (x.cps.toList.all fun c => decide (c < 16 ^ 8)) = true) (hw : (PyData.str x).weight ≤ 64) : Shn 0 64 M (.str x) (.str x) := ⟨.str x, by simpa only [bigP] using h, by simp [PyData.depth], hw⟩
theorem shn_nil {M : MH} : ∃ p, Shn 1 1 M (.tup []) p := shn_tup (k := 0) (w := 0) (n := 0) (fun x hx => by simp at hx) (Nat.le_refl _) (by decide) (by decide)
theorem shn_zero {M : MH} : ∃ p, Shn 1 6 M (.tup [.int 0]) p := shn_tup (k := 0) (w := 4) (n := 1) (fun x hx => by
  rw [List.mem_singleton] at hx
  subst hx
  exact ⟨_, shn_small (by decide)⟩) (Nat.le_refl _) (by decide) (by decide)
theorem here_shn {M : MH} {own : Int} {x : D} (h : x ∈ hereL own) (h0 : 0 ≤ own) (h4 : own ≤ 4) : ∃ p, Shn 1 70 M x p := by
  have up : ∀ {k w : Nat} {y : D} {p : PyData}, Shn k w M y p → k ≤ 1 → w ≤ 70 → ∃ p, Shn 1 70 M y p := fun s hk hw => ⟨_, s.mono (Sub.refl M) hk hw⟩
  unfold hereL at h
  simp only [List.mem_cons, List.not_mem_nil, or_false] at h
  rcases h with rfl | rfl | rfl | rfl | rfl | rfl | rfl | rfl
  · exact up (shn_small (by omega)) (by decide) (by decide)
  · exact up (shn_small (by omega)) (by decide) (by decide)
  · exact up (shn_small (by decide)) (by decide) (by decide)
  · exact up shn_non (by decide) (by decide)
  · exact up (shn_str (by decide) (by decide)) (by decide) (by decide)
  · obtain ⟨p, hp⟩ := shn_zero (M := M)
    exact up hp (by decide) (by decide)
  · exact up (shn_small (by omega)) (by decide) (by decide)
  · exact up (shn_int (by decide)) (by decide) (by decide)
theorem here_head {M : MH} {r : Nat} {x : D} {tl : List D} (hx : ∃ p, Shn 1 70 M x p) (ht : ∀ y ∈ tl, ∃ p, Shn (2 * r + 2) (sW r) M y p) (hl : tl.length ≤ r ∧ tl.length ≤ 1) : ∃ p, Shn (2 * r + 3) (vW r) M (.tup ([x] ++ tl)) p := by
  have h1 := vW_big r
  have h2 := sW_pos r
  have hw : (tl.length + 1) * (sW r + 64 + 1) + 1 ≤ vW r := by
    by_cases e : tl.length = 0
    · rw [e]; omega
    · have e1 : tl.length = 1 := by omega
      have h3 : sW 1 ≤ sW r := sW_mono (by omega)
      have h4 : sW 1 = 61 := by decide
      rw [e1]
      omega
  refine shn_tup (k := 2 * r + 2) (w := sW r + 64) (n := tl.length + 1) (fun y hy => ?_) (by simp) hw (Nat.le_refl _)
  rcases List.mem_append.mp hy with hy | hy
  · rw [List.mem_singleton] at hy
    subst hy
    obtain ⟨p, hp⟩ := hx
    exact ⟨p, hp.mono (Sub.refl M) (by omega) (by omega)⟩
  · obtain ⟨p, hp⟩ := ht y hy
    exact ⟨p, hp.mono (Sub.refl M) (Nat.le_refl _) (by omega)⟩
/-- a node of two parts, the second one changed -/
theorem here_two {M : MH} {j w : Nat} {v : Int} {y : D} (hv : v.natAbs < 16) (hy : ∃ p, Shn (2 * j + 4) w M y p) (hw : 2 * w + 3 ≤ vW (j + 1)) (h4 : 4 ≤ w) : ∃ p, Shn (2 * (j + 1) + 3) (vW (j + 1)) M (.tup [.int v, y]) p := by
  refine shn_tup (k := 2 * j + 4) (w := w) (n := 2) (fun x hx => ?_) (Nat.le_refl _) (by omega) (by omega)
  simp only [List.mem_cons, List.not_mem_nil, or_false] at hx
  rcases hx with rfl | rfl
  · exact ⟨_, (shn_small hv).mono (Sub.refl M) (by omega) h4⟩
  · exact hy
/-! ### promises -/
def spBrD (n : Nat) : Sp3 := fun ds M Q _ => ∃ (d : D) (cs own other back : Int) (r : Nat), ds = [d, .int cs, .int own, .int other, .int (r : Int), .int back] ∧ Vk M d ∧ r ≤ n ∧ cs ≤ 1000 ∧ Q (.bl (brD r cs own other back d)) M
def sp_law_integer (G : Gm) : Sp3 := spWhole
def sp_is_branch (G : Gm) : Sp3 := spBrD 4
def sp_law_right (G : Gm) : Sp3 := spBrD 4
def sp_check_reach (G : Gm) : Sp3 := fun ds M Q E => ∃ d, ds = [d] ∧ TyKnown M d ∧ (isNum d 0 4 = true → Q .non M) ∧ (isNum d 0 4 = false → E (.ref G.BadReach) none M)
def sp_is_view (G : Gm) : Sp3 := fun ds M Q E => ∃ (d : D) (cs own other : Int) (e : D), ds = [d, .int cs, .int own, .int other, e] ∧ Vk M d ∧ cs ≤ 1000 ∧ TyKnown M e ∧ (isNum e 0 4 = false → E (.ref G.BadReach) none M) ∧
  ∀ r : Nat, e = .int (r : Int) → r ≤ 4 → Q (.bl (brD r cs own other 0 d)) M
def sp_law_draws (G : Gm) : Sp3 := spDraws
def sp_law_take (G : Gm) : Sp3 := spTakeD
/-- a drawn view: no lists in it -/
def spDrw (n : Nat) : Sp3 := fun ds M Q _ => ∃ (h d : Addr) (k : Int) (cs own other : Nat) (back : Int) (r : Nat), ds = [.ref h, .int (cs : Int), .int (own : Int), .int (other : Int), .int (r : Int), .int back] ∧ HandD M h d k ∧ r ≤ n ∧ cs ≤ 4 ∧ 0 < own ∧ 0 < other ∧ own ≤ 4 ∧ other ≤ 4 ∧
  ∀ v k', brD r cs own other back v = true → 0 ≤ k' → Q v (setH M h d k')
def sp_law_drawn (G : Gm) : Sp3 := spDrw 4
/-- what a changed view of reach r may be -/
def Alt (M : MH) (h d : Addr) (r : Nat) (Q : Q3) : Prop := ∀ v p M' k', Sub (setH M h d k') M' → 0 ≤ k' → Shn (2 * r + 3) (vW r) (rest M' h) v p → Q v M'
def sp_law_here (G : Gm) : Sp3 := fun ds M Q _ => ∃ (h d : Addr) (k : Int) (v : D) (cs own other : Nat) (back : Int) (r : Nat), ds = [.ref h, v, .int (own : Int)] ∧ HandD M h d k ∧ r ≤ 4 ∧ 1 ≤ cs ∧ cs ≤ 4 ∧ 0 < own ∧ 0 < other ∧ own ≤ 4 ∧ other ≤ 4 ∧ brD r cs own other back v = true ∧ Alt M h d r Q
def spChg (n : Nat) : Sp3 := fun ds M Q _ => ∃ (h d : Addr) (k : Int) (v : D) (cs own other : Nat) (back : Int) (r m : Nat), ds = [.ref h, v, .int (own : Int), .int (other : Int), .int (m : Int)] ∧ HandD M h d k ∧ r ≤ 4 ∧ 1 ≤ cs ∧ cs ≤ 4 ∧ 0 < own ∧ 0 < other ∧ own ≤ 4 ∧ other ≤ 4 ∧ m ≤ n ∧ brD r cs own other back v = true ∧ Alt M h d r Q
def sp_law_changed (G : Gm) : Sp3 := spChg 4
/-- a value, or a dict -/
def ValQ (M : MH) (h : Addr) (v : D) : Prop := (∃ p, Shn 11 (vW 4) (rest M h) v p) ∨ ∃ a, v = .ref a ∧ a ≠ h ∧ (M a = some (.dK []) ∨ M a = some (.dK [(.inl 0, .tup [.int 0])]))
def sp_law_value (G : Gm) : Sp3 := fun ds M Q _ => ∃ (h d : Addr) (k : Int) (cs own other r : Nat), ds = [.ref h, .int (cs : Int), .int (own : Int), .int (other : Int), .int (r : Int)] ∧ HandD M h d k ∧ r ≤ 4 ∧ 1 ≤ cs ∧ cs ≤ 4 ∧ 0 < own ∧ 0 < other ∧ own ≤ 4 ∧ other ≤ 4 ∧
  ∀ v M' k', Sub (setH M h d k') M' → 0 ≤ k' → ValQ M' h v → Q v M'
def sp_law_refused (G : Gm) : Sp3 := fun ds M Q _ => ∃ (d : D) (cs own other : Int) (e : D), ds = [d, .int cs, .int own, .int other, e] ∧ Vk M d ∧ cs ≤ 1000 ∧ TyKnown M e ∧ isNum e 0 4 = false ∧ Q (.bl true) M
def sp_law_all (G : Gm) : Sp3 := spLaw3 63
def sp_law (G : Gm) : Sp3 := spLaw3 63
end My

namespace My
open PySem PySem.Spec PyProof.Rows L2 L3

variable {P : Program} {w : World} {G : Gm} {mg : Str → Option Value} {base : Heap}
def t_check_reach (G : Gm) : S3 :=
    (s3If (t3Or (t3Not (t3Test (e3CB c3Isi (a3Cons (e3Var 0) (a3Cons (e3C (.ty "int")) a3Nil))))) (t3Or (t3Test (e3CB c3Isi (a3Cons (e3Var 0) (a3Cons (e3C (.ty "bool")) a3Nil)))) (t3Not (t3Test (e3Chain r3Le r3Le (e3C (.int 0)) (e3Var 0) (e3C (.int 4))))))) (s3Raise G.BadReach) s3Nil)
theorem der_check_reach (T : Txt G mg) (f : Addr) (cdv : Value) (A : Around) (outer : List Env) (s : Shared) (H : Hp) (E : XK) (hr : RoomG 0 (A.deeper (envOfC "check_reach" (defScope s_check_reach) s.heap.objs.size f cdv))) :
    DSs (cxOf (L2.CX P w) P w G.K mg base N_check_reach "check_reach" (defScope s_check_reach) f cdv A outer s H E) (defBody s_check_reach) (t_check_reach G) :=
    (dss_one (ds_if (t_w (w_or (t_not (t_val (d_isi T.n_isinstance (da_cons (dv 0) (da_cons (d_ty (n := "int") rfl T.n_int (by decide +kernel)) da_nil))))) (w_or (t_val (d_isi T.n_isinstance (da_cons (dv 0) (da_cons (d_ty (n := "bool") rfl T.n_bool (by decide +kernel)) da_nil)))) (w_one (t_not (t_chain op_le opl_Le op_le opl_Le d_int (dv 0) (d_cst T.c_MOST_SEEN))))))) (dss_one (ds_raiseT T.x_BadReach)) dss_nil))
def t_law_draws (G : Gm) : S3 :=
    (s3Seq (s3Asg (e3Lc (i3Seq (e3Var 0)) 5 t3Yes (e3CB c3Abs (a3Cons (e3CB c3Int (a3Cons (e3Var 5) a3Nil)) a3Nil)) [5]) 2)
    (s3Seq (s3Asg (e3Lst a3Nil) 3)
    (s3Seq (s3For (i3Rng1 (a3Cons (e3Var 1) a3Nil)) (g3Name 4) (s3Seq (s3Asg (e3Var 4) 5)
    (s3Seq (s3If (t3Test (e3Op r3Gt (e3CB c3Len (a3Cons (e3Var 0) a3Nil)) (e3C (.int 0)))) (s3Seq (s3Asg (e3Op r3Mod (e3Var 4) (e3CB c3Len (a3Cons (e3Var 0) a3Nil))) 7)
    (s3Seq (s3Asg (e3CB c3Int (a3Cons (e3Op r3Ix (e3Var 0) (e3Var 7)) a3Nil)) 5)
    (s3If (t3And (t3Test (e3Op r3Ge (e3Var 5) (e3Op r3Pow (e3C (.int 10)) (e3C (.int 18))))) (t3Test (e3Op r3Gt (e3Op r3Ix (e3Var 2) (e3Var 7)) (e3C (.int 0))))) (s3Seq (s3Expr (e3Bm m3App (e3Var 3) (a3Cons (e3Op r3Mod (e3CB c3Int (a3Cons (e3Op r3Ix (e3Var 2) (e3Var 7)) a3Nil)) (e3C (.int 1000003))) a3Nil)))
    (s3Seq (s3AsgG (e3Op r3Div (e3CB c3Int (a3Cons (e3Op r3Ix (e3Var 2) (e3Var 7)) a3Nil)) (e3C (.int 1000003))) (g3SubL (e3Var 2) (e3Var 7)))
    s3Cont)) s3Nil))) s3Nil)
    (s3Seq (s3Asg (e3Op r3Mod (e3CB c3Int (a3Cons (e3Op r3Add (e3Op r3Add (e3Op r3Mul (e3Var 5) (e3C (.int 48271))) (e3Op r3Mul (e3Var 4) (e3C (.int 69621)))) (e3C (.int 11))) a3Nil)) (e3C (.int 2147483647))) 6)
    (s3Seq (s3Asg (e3Op r3Mod (e3CB c3Int (a3Cons (e3Op r3Add (e3Op r3Div (e3Op r3Mul (e3Var 6) (e3Var 6)) (e3C (.int 4096))) (e3Var 6)) a3Nil)) (e3C (.int 2147483629))) 6)
    (s3Expr (e3Bm m3App (e3Var 3) (a3Cons (e3Op r3Mod (e3CB c3Int (a3Cons (e3Op r3Add (e3Op r3Div (e3Op r3Mul (e3Var 6) (e3Var 6)) (e3C (.int 4096))) (e3Op r3Mul (e3Var 4) (e3C (.int 7919)))) a3Nil)) (e3C (.int 2147483629))) a3Nil))))))))
    (s3Ret (e3Var 3)))))
theorem der_law_draws (T : Txt G mg) (f : Addr) (cdv : Value) (A : Around) (outer : List Env) (s : Shared) (H : Hp) (E : XK) (hr : RoomG 0 (A.deeper (envOfC "_law_draws" (defScope s_law_draws) s.heap.objs.size f cdv))) :
    DSs (cxOf (L2.CX P w) P w G.K mg base N_law_draws "_law_draws" (defScope s_law_draws) f cdv A outer s H E) (defBody s_law_draws) (t_law_draws G) :=
    (dss_cons (by first | exact ds_setLc (j := 2) [("cell", 5)] rfl sc_law_draws.nd (di_seq (dv 0)) (blkOk_by (own := [("cell", 5)]) (N := N_law_draws) (sc := defScope s_law_draws) (by decide +kernel)) (by decide) (fun _ _ _ _ _ => pg_name (i := 5) sc_law_draws.nd rfl (by first | exact Or.inl rfl | exact Or.inr rfl) (by first | exact .inl rfl | exact .inr rfl)) (fun _ _ _ _ _ => dts_nil) (fun _ _ _ _ _ => (d_abs T.n_abs (da_cons (d_intc T.n_int (da_cons (dv 5) da_nil)) da_nil))) | exact ds_set (i := 2) sc_law_draws.nd (d_lc [("cell", 5)] rfl sc_law_draws.nd (di_seq (dv 0)) (blkOk_by (own := [("cell", 5)]) (N := N_law_draws) (sc := defScope s_law_draws) (by decide +kernel)) (by decide) (fun _ _ _ _ _ => pg_name (i := 5) sc_law_draws.nd rfl (by first | exact Or.inl rfl | exact Or.inr rfl) (by first | exact .inl rfl | exact .inr rfl)) (fun _ _ _ _ _ => dts_nil) (fun _ _ _ _ _ => (d_abs T.n_abs (da_cons (d_intc T.n_int (da_cons (dv 5) da_nil)) da_nil)))))
    (dss_cons (ds_set (i := 3) sc_law_draws.nd (d_lst da_nil))
    (dss_cons (ds_for rfl (di_rng1 T.n_range (da_cons (dv 1) da_nil)) (dg_name (i := 4) sc_law_draws.nd) (dss_cons (ds_set (i := 5) sc_law_draws.nd (dv 4))
    (dss_cons (ds_if (t_cmp op_gt opl_Gt (d_len T.n_len (da_cons (dv 0) da_nil)) d_int) (dss_cons (ds_set (i := 7) sc_law_draws.nd (d_mod (dv 4) (d_len T.n_len (da_cons (dv 0) da_nil))))
    (dss_cons (ds_set (i := 5) sc_law_draws.nd (d_intc T.n_int (da_cons (d_ix (dv 0) (dv 7)) da_nil)))
    (dss_one (ds_if (t_w (w_and (t_cmp op_ge opl_Ge (dv 5) (d_pow d_int d_int)) (w_one (t_cmp op_gt opl_Gt (d_ix (dv 2) (dv 7)) d_int)))) (dss_cons (ds_expr (d_append (dv 3) (da_cons (d_mod (d_intc T.n_int (da_cons (d_ix (dv 2) (dv 7)) da_nil)) d_int) da_nil)))
    (dss_cons (ds_asg (d_fdiv (d_intc T.n_int (da_cons (d_ix (dv 2) (dv 7)) da_nil)) d_int) (dg_subL (dv 2) (dv 7)))
    (dss_one ds_continue))) dss_nil)))) dss_nil)
    (dss_cons (ds_set (i := 6) sc_law_draws.nd (d_mod (d_intc T.n_int (da_cons (d_add (d_add (d_mul (dv 5) d_int) (d_mul (dv 4) d_int)) d_int) da_nil)) d_int))
    (dss_cons (ds_set (i := 6) sc_law_draws.nd (d_mod (d_intc T.n_int (da_cons (d_add (d_fdiv (d_mul (dv 6) (dv 6)) d_int) (dv 6)) da_nil)) d_int))
    (dss_one (ds_expr (d_append (dv 3) (da_cons (d_mod (d_intc T.n_int (da_cons (d_add (d_fdiv (d_mul (dv 6) (dv 6)) d_int) (d_mul (dv 4) d_int)) da_nil)) d_int) da_nil)))))))))
    (dss_one (ds_ret (dv 3))))))
def t_law_take (G : Gm) : S3 :=
    (s3Seq (s3Asg (e3Op r3Ix (e3Var 0) (e3C (.int 1))) 2)
    (s3Seq (s3AsgG (e3Op r3Add (e3Var 2) (e3C (.int 1))) (g3SubL (e3Var 0) (e3C (.int 1))))
    (s3Seq (s3Asg (e3Op r3Ix (e3Var 0) (e3C (.int 0))) 3)
    (s3Seq (s3If (t3Test (e3Op r3Ge (e3Var 2) (e3CB c3Len (a3Cons (e3Var 3) a3Nil)))) (s3Ret (e3C (.int 0))) s3Nil)
    (s3Ret (e3Op r3Mod (e3Op r3Div (e3CB c3Int (a3Cons (e3Op r3Ix (e3Var 3) (e3Var 2)) a3Nil)) (e3C (.int 7))) (e3Var 1)))))))
theorem der_law_take (T : Txt G mg) (f : Addr) (cdv : Value) (A : Around) (outer : List Env) (s : Shared) (H : Hp) (E : XK) (hr : RoomG 0 (A.deeper (envOfC "_law_take" (defScope s_law_take) s.heap.objs.size f cdv))) :
    DSs (cxOf (L2.CX P w) P w G.K mg base N_law_take "_law_take" (defScope s_law_take) f cdv A outer s H E) (defBody s_law_take) (t_law_take G) :=
    (dss_cons (ds_set (i := 2) sc_law_take.nd (d_ix (dv 0) d_int))
    (dss_cons (ds_asg (d_add (dv 2) d_int) (dg_subL (dv 0) d_int))
    (dss_cons (ds_set (i := 3) sc_law_take.nd (d_ix (dv 0) d_int))
    (dss_cons (ds_if (t_cmp op_ge opl_Ge (dv 2) (d_len T.n_len (da_cons (dv 3) da_nil))) (dss_one (ds_ret d_int)) dss_nil)
    (dss_one (ds_ret (d_mod (d_fdiv (d_intc T.n_int (da_cons (d_ix (dv 3) (dv 2)) da_nil)) d_int) (dv 1))))))))
def t_law_integer (G : Gm) : S3 :=
    (s3Ret (e3And (e3CB c3Isi (a3Cons (e3Var 0) (a3Cons (e3C (.ty "int")) a3Nil))) (e3Not (e3CB c3Isi (a3Cons (e3Var 0) (a3Cons (e3C (.ty "bool")) a3Nil))))))
theorem der_law_integer (T : Txt G mg) (f : Addr) (cdv : Value) (A : Around) (outer : List Env) (s : Shared) (H : Hp) (E : XK) (hr : RoomG 0 (A.deeper (envOfC "_law_integer" (defScope s_law_integer) s.heap.objs.size f cdv))) :
    DSs (cxOf (L2.CX P w) P w G.K mg base N_law_integer "_law_integer" (defScope s_law_integer) f cdv A outer s H E) (defBody s_law_integer) (t_law_integer G) :=
    (dss_one (ds_ret (d_and (d_isi T.n_isinstance (da_cons (dv 0) (da_cons (d_ty (n := "int") rfl T.n_int (by decide +kernel)) da_nil))) (d_one (d_not (d_isi T.n_isinstance (da_cons (dv 0) (da_cons (d_ty (n := "bool") rfl T.n_bool (by decide +kernel)) da_nil))))))))
def t_law_here (G : Gm) : S3 :=
    (s3Seq (s3Asg (e3Call (sp_law_take G) (a3Cons (e3Var 0) (a3Cons (e3C (.int 12)) a3Nil))) 3)
    (s3Seq (s3Asg (e3Sl (e3Var 1) (o3Some (e3C (.int 1))) o3None) 4)
    (s3Seq (s3If (t3Test (e3Op r3Lt (e3Var 3) (e3C (.int 3)))) (s3Ret (e3Op r3Add (e3Tup (a3Cons (e3Op r3Ix (e3Lst (a3Cons (e3Var 2) (a3Cons (e3Op r3Add (e3Var 2) (e3C (.int 3))) (a3Cons (e3Neg (e3C (.int 1))) (a3Cons (e3C .non) (a3Cons (e3C (.str "0")) (a3Cons (e3Tup (a3Cons (e3C (.int 0)) a3Nil)) (a3Cons (e3Op r3Sub (e3Var 2) (e3C (.int 1))) (a3Cons (e3Op r3Pow (e3C (.int 10)) (e3C (.int 20))) a3Nil))))))))) (e3Call (sp_law_take G) (a3Cons (e3Var 0) (a3Cons (e3C (.int 8)) a3Nil)))) a3Nil)) (e3Var 4))) s3Nil)
    (s3Seq (s3If (t3Test (e3Op r3Eq (e3Var 3) (e3C (.int 3)))) (s3Ret (e3Op r3Add (e3Tup (a3Cons (e3Op r3Eq (e3Op r3Ix (e3Var 1) (e3C (.int 0))) (e3C (.int 1))) a3Nil)) (e3Var 4))) s3Nil)
    (s3Seq (s3If (t3Test (e3Op r3Eq (e3Var 3) (e3C (.int 4)))) (s3Ret (e3CB c3List (a3Cons (e3Var 1) a3Nil))) s3Nil)
    (s3Seq (s3If (t3Test (e3Op r3Eq (e3Var 3) (e3C (.int 5)))) (s3Ret (e3Op r3Add (e3Var 1) (e3Op r3Ix (e3Lst (a3Cons (e3Tup (a3Cons (e3Tup a3Nil) a3Nil)) (a3Cons (e3Tup (a3Cons (e3C .non) a3Nil)) (a3Cons (e3Tup (a3Cons (e3C (.int 0)) a3Nil)) a3Nil)))) (e3Call (sp_law_take G) (a3Cons (e3Var 0) (a3Cons (e3C (.int 3)) a3Nil)))))) s3Nil)
    (s3Seq (s3If (t3Test (e3Op r3Eq (e3Var 3) (e3C (.int 6)))) (s3Ret (e3Op r3Ix (e3Lst (a3Cons (e3Sl (e3Var 1) o3None (o3Some (e3C (.int 1)))) (a3Cons (e3Tup a3Nil) (a3Cons (e3C .non) (a3Cons (e3Op r3Ix (e3Var 1) (e3C (.int 0))) (a3Cons (e3Lst (a3Cons (e3Op r3Ix (e3Var 1) (e3C (.int 0))) a3Nil)) a3Nil)))))) (e3Call (sp_law_take G) (a3Cons (e3Var 0) (a3Cons (e3C (.int 5)) a3Nil))))) s3Nil)
    (s3Seq (s3If (t3Test (e3Op r3Eq (e3CB c3Len (a3Cons (e3Var 4) a3Nil)) (e3C (.int 0)))) (s3Ret (e3Tup (a3Cons (e3Op r3Ix (e3Var 1) (e3C (.int 0))) (a3Cons (e3TupOf (e3Lc (i3Rng1 (a3Cons (e3C (.int 3)) a3Nil)) 7 t3Yes (e3Tup (a3Cons (e3C (.int 0)) a3Nil)) [7])) a3Nil)))) s3Nil)
    (s3Seq (s3Asg (e3Op r3Ix (e3Var 1) (e3C (.int 1))) 5)
    (s3Seq (s3Asg (e3Call (sp_law_take G) (a3Cons (e3Var 0) (a3Cons (e3CB c3Len (a3Cons (e3Var 5) a3Nil)) a3Nil))) 6)
    (s3Seq (s3If (t3Test (e3Op r3Eq (e3Var 3) (e3C (.int 7)))) (s3Ret (e3Tup (a3Cons (e3Op r3Ix (e3Var 1) (e3C (.int 0))) (a3Cons (e3CB c3List (a3Cons (e3Var 5) a3Nil)) a3Nil)))) s3Nil)
    (s3Seq (s3If (t3Test (e3Op r3Eq (e3Var 3) (e3C (.int 8)))) (s3Ret (e3Tup (a3Cons (e3Op r3Ix (e3Var 1) (e3C (.int 0))) (a3Cons (e3Sl (e3Var 5) o3None (o3Some (e3Neg (e3C (.int 1))))) a3Nil)))) s3Nil)
    (s3Seq (s3If (t3Test (e3Op r3Eq (e3Var 3) (e3C (.int 9)))) (s3Ret (e3Tup (a3Cons (e3Op r3Ix (e3Var 1) (e3C (.int 0))) (a3Cons (e3Op r3Add (e3Var 5) (e3Tup (a3Cons (e3Op r3Ix (e3Var 5) (e3Var 6)) a3Nil))) a3Nil)))) s3Nil)
    (s3Seq (s3If (t3Test (e3Op r3Eq (e3Var 3) (e3C (.int 10)))) (s3Ret (e3Tup (a3Cons (e3Op r3Ix (e3Var 1) (e3C (.int 0))) (a3Cons (e3Op r3Add (e3Op r3Add (e3Sl (e3Var 5) o3None (o3Some (e3Var 6))) (e3Tup (a3Cons (e3C .non) a3Nil))) (e3Sl (e3Var 5) (o3Some (e3Op r3Add (e3Var 6) (e3C (.int 1)))) o3None)) a3Nil)))) s3Nil)
    (s3Ret (e3Tup (a3Cons (e3Op r3Ix (e3Var 1) (e3C (.int 0))) (a3Cons (e3Op r3Add (e3Op r3Add (e3Sl (e3Var 5) o3None (o3Some (e3Var 6))) (e3Tup (a3Cons (e3Op r3Ix (e3Var 5) (e3Op r3Sub (e3Var 6) (e3C (.int 1)))) a3Nil))) (e3Sl (e3Var 5) (o3Some (e3Op r3Add (e3Var 6) (e3C (.int 1)))) o3None)) a3Nil))))))))))))))))))
theorem der_law_here (T : Txt G mg) {f_law_take : Addr} {fd_law_take : FuncData} (C_law_take : Cal P w G.K mg base 1 f_law_take fd_law_take "_law_take" ["hand", "many"] (sp_law_take G)) (f : Addr) (cdv : Value) (A : Around) (outer : List Env) (s : Shared) (H : Hp) (E : XK) (hr : RoomG 1 (A.deeper (envOfC "_law_here" (defScope s_law_here) s.heap.objs.size f cdv))) :
    DSs (cxOf (L2.CX P w) P w G.K mg base N_law_here "_law_here" (defScope s_law_here) f cdv A outer s H E) (defBody s_law_here) (t_law_here G) :=
    (dss_cons (ds_set (i := 3) sc_law_here.nd (d_callC C_law_take hr (da_cons (dv 0) (da_cons d_int da_nil))))
    (dss_cons (ds_set (i := 4) sc_law_here.nd (d_sl (dv 1) (do_some d_int) do_none))
    (dss_cons (ds_if (t_cmp op_lt opl_Lt (dv 3) d_int) (dss_one (ds_ret (d_add (d_tup (da_cons (d_ix (d_lst (da_cons (dv 2) (da_cons (d_add (dv 2) d_int) (da_cons (d_neg d_int) (da_cons d_non (da_cons d_str (da_cons (d_tup (da_cons d_int da_nil)) (da_cons (d_sub (dv 2) d_int) (da_cons (d_pow d_int d_int) da_nil))))))))) (d_callC C_law_take hr (da_cons (dv 0) (da_cons d_int da_nil)))) da_nil)) (dv 4)))) dss_nil)
    (dss_cons (ds_if (t_cmp (ho_eq hr.r) opl_eq (dv 3) d_int) (dss_one (ds_ret (d_add (d_tup (da_cons (d_cmp (ho_eq hr.r) opl_eq (d_ix (dv 1) d_int) d_int) da_nil)) (dv 4)))) dss_nil)
    (dss_cons (ds_if (t_cmp (ho_eq hr.r) opl_eq (dv 3) d_int) (dss_one (ds_ret (d_list T.n_list (da_cons (dv 1) da_nil)))) dss_nil)
    (dss_cons (ds_if (t_cmp (ho_eq hr.r) opl_eq (dv 3) d_int) (dss_one (ds_ret (d_add (dv 1) (d_ix (d_lst (da_cons (d_tup (da_cons (d_tup da_nil) da_nil)) (da_cons (d_tup (da_cons d_non da_nil)) (da_cons (d_tup (da_cons d_int da_nil)) da_nil)))) (d_callC C_law_take hr (da_cons (dv 0) (da_cons d_int da_nil))))))) dss_nil)
    (dss_cons (ds_if (t_cmp (ho_eq hr.r) opl_eq (dv 3) d_int) (dss_one (ds_ret (d_ix (d_lst (da_cons (d_sl (dv 1) do_none (do_some d_int)) (da_cons (d_tup da_nil) (da_cons d_non (da_cons (d_ix (dv 1) d_int) (da_cons (d_lst (da_cons (d_ix (dv 1) d_int) da_nil)) da_nil)))))) (d_callC C_law_take hr (da_cons (dv 0) (da_cons d_int da_nil)))))) dss_nil)
    (dss_cons (ds_if (t_cmp (ho_eq hr.r) opl_eq (d_len T.n_len (da_cons (dv 4) da_nil)) d_int) (dss_one (ds_ret (d_tup (da_cons (d_ix (dv 1) d_int) (da_cons (d_tuple T.n_tuple (d_lc [("k", 7)] rfl sc_law_here.nd (di_rng1 T.n_range (da_cons d_int da_nil)) (blkOk_by (own := [("k", 7)]) (N := N_law_here) (sc := defScope s_law_here) (by decide +kernel)) (by decide) (fun _ _ _ _ _ => pg_name (i := 7) sc_law_here.nd rfl (by first | exact Or.inl rfl | exact Or.inr rfl) (by first | exact .inl rfl | exact .inr rfl)) (fun _ _ _ _ _ => dts_nil) (fun _ _ _ _ _ => (d_tup (da_cons d_int da_nil))))) da_nil))))) dss_nil)
    (dss_cons (ds_set (i := 5) sc_law_here.nd (d_ix (dv 1) d_int))
    (dss_cons (ds_set (i := 6) sc_law_here.nd (d_callC C_law_take hr (da_cons (dv 0) (da_cons (d_len T.n_len (da_cons (dv 5) da_nil)) da_nil))))
    (dss_cons (ds_if (t_cmp (ho_eq hr.r) opl_eq (dv 3) d_int) (dss_one (ds_ret (d_tup (da_cons (d_ix (dv 1) d_int) (da_cons (d_list T.n_list (da_cons (dv 5) da_nil)) da_nil))))) dss_nil)
    (dss_cons (ds_if (t_cmp (ho_eq hr.r) opl_eq (dv 3) d_int) (dss_one (ds_ret (d_tup (da_cons (d_ix (dv 1) d_int) (da_cons (d_sl (dv 5) do_none (do_some (d_neg d_int))) da_nil))))) dss_nil)
    (dss_cons (ds_if (t_cmp (ho_eq hr.r) opl_eq (dv 3) d_int) (dss_one (ds_ret (d_tup (da_cons (d_ix (dv 1) d_int) (da_cons (d_add (dv 5) (d_tup (da_cons (d_ix (dv 5) (dv 6)) da_nil))) da_nil))))) dss_nil)
    (dss_cons (ds_if (t_cmp (ho_eq hr.r) opl_eq (dv 3) d_int) (dss_one (ds_ret (d_tup (da_cons (d_ix (dv 1) d_int) (da_cons (d_add (d_add (d_sl (dv 5) do_none (do_some (dv 6))) (d_tup (da_cons d_non da_nil))) (d_sl (dv 5) (do_some (d_add (dv 6) d_int)) do_none)) da_nil))))) dss_nil)
    (dss_one (ds_ret (d_tup (da_cons (d_ix (dv 1) d_int) (da_cons (d_add (d_add (d_sl (dv 5) do_none (do_some (dv 6))) (d_tup (da_cons (d_ix (dv 5) (d_sub (dv 6) d_int)) da_nil))) (d_sl (dv 5) (do_some (d_add (dv 6) d_int)) do_none)) da_nil)))))))))))))))))))
def t_is_branch (G : Gm) (sf : Sp3) : S3 :=
    (s3Seq (s3If (t3Or (t3Not (t3Test (e3CB c3Isi (a3Cons (e3Var 0) (a3Cons (e3C (.ty "tuple")) a3Nil))))) (t3Test (e3Op r3Ne (e3CB c3Len (a3Cons (e3Var 0) a3Nil)) (e3If (t3Test (e3Op r3Eq (e3Var 4) (e3C (.int 0)))) (e3C (.int 1)) (e3C (.int 2)))))) (s3Ret (e3C (.bl false))) s3Nil)
    (s3Seq (s3If (t3Or (t3Not (t3Test (e3CB c3Isi (a3Cons (e3Op r3Ix (e3Var 0) (e3C (.int 0))) (a3Cons (e3C (.ty "int")) a3Nil))))) (t3Or (t3Test (e3CB c3Isi (a3Cons (e3Op r3Ix (e3Var 0) (e3C (.int 0))) (a3Cons (e3C (.ty "bool")) a3Nil)))) (t3Not (t3Test (e3Chain r3Le r3Lt (e3C (.int 0)) (e3Op r3Ix (e3Var 0) (e3C (.int 0))) (e3Var 2)))))) (s3Ret (e3C (.bl false))) s3Nil)
    (s3Seq (s3If (t3Test (e3Op r3Eq (e3Var 4) (e3C (.int 0)))) (s3Ret (e3C (.bl true))) s3Nil)
    (s3Seq (s3If (t3Or (t3Not (t3Test (e3CB c3Isi (a3Cons (e3Op r3Ix (e3Var 0) (e3C (.int 1))) (a3Cons (e3C (.ty "tuple")) a3Nil))))) (t3Test (e3Op r3Ne (e3CB c3Len (a3Cons (e3Op r3Ix (e3Var 0) (e3C (.int 1))) a3Nil)) (e3Var 1)))) (s3Ret (e3C (.bl false))) s3Nil)
    (s3Seq (s3For (i3Enum (a3Cons (e3Op r3Ix (e3Var 0) (e3C (.int 1))) a3Nil)) (g3Tup 2 (g3sCons (g3Name 6) (g3sCons (g3Name 7) g3sNil))) (s3If (t3Test (e3Op r3Eq (e3Var 6) (e3Op r3Sub (e3Var 5) (e3C (.int 1))))) (s3If (t3Test (e3Op r3IsNot (e3Var 7) (e3C .non))) (s3Ret (e3C (.bl false))) s3Nil) (s3If (t3Not (t3Test (e3Call sf (a3Cons (e3Var 7) (a3Cons (e3Var 1) (a3Cons (e3Var 3) (a3Cons (e3Var 2) (a3Cons (e3Op r3Sub (e3Var 4) (e3C (.int 1))) (a3Cons (e3Op r3Add (e3Var 6) (e3C (.int 1))) a3Nil))))))))) (s3Ret (e3C (.bl false))) s3Nil)))
    (s3Ret (e3C (.bl true))))))))
theorem der_is_branch (T : Txt G mg) {kk : Nat} {sf : Sp3} {f_is_branch : Addr} {fd_is_branch : FuncData} (C_is_branch : Cal P w G.K mg base kk f_is_branch fd_is_branch "is_branch" ["value", "D", "own", "other", "reach", "colour"] sf) (f : Addr) (cdv : Value) (A : Around) (outer : List Env) (s : Shared) (H : Hp) (E : XK) (hr : RoomG kk (A.deeper (envOfC "is_branch" (defScope s_is_branch) s.heap.objs.size f cdv))) :
    DSs (cxOf (L2.CX P w) P w G.K mg base N_is_branch "is_branch" (defScope s_is_branch) f cdv A outer s H E) (defBody s_is_branch) (t_is_branch G sf) :=
    (dss_cons (ds_if (t_w (w_or (t_not (t_val (d_isi T.n_isinstance (da_cons (dv 0) (da_cons (d_ty (n := "tuple") rfl T.n_tuple (by decide +kernel)) da_nil))))) (w_one (t_cmp (ho_ne hr.r) opl_ne (d_len T.n_len (da_cons (dv 0) da_nil)) (d_ifExp (t_cmp (ho_eq hr.r) opl_eq (dv 4) d_int) d_int d_int))))) (dss_one (ds_ret d_bl)) dss_nil)
    (dss_cons (ds_if (t_w (w_or (t_not (t_val (d_isi T.n_isinstance (da_cons (d_ix (dv 0) d_int) (da_cons (d_ty (n := "int") rfl T.n_int (by decide +kernel)) da_nil))))) (w_or (t_val (d_isi T.n_isinstance (da_cons (d_ix (dv 0) d_int) (da_cons (d_ty (n := "bool") rfl T.n_bool (by decide +kernel)) da_nil)))) (w_one (t_not (t_chain op_le opl_Le op_lt opl_Lt d_int (d_ix (dv 0) d_int) (dv 2))))))) (dss_one (ds_ret d_bl)) dss_nil)
    (dss_cons (ds_if (t_cmp (ho_eq hr.r) opl_eq (dv 4) d_int) (dss_one (ds_ret d_bl)) dss_nil)
    (dss_cons (ds_if (t_w (w_or (t_not (t_val (d_isi T.n_isinstance (da_cons (d_ix (dv 0) d_int) (da_cons (d_ty (n := "tuple") rfl T.n_tuple (by decide +kernel)) da_nil))))) (w_one (t_cmp (ho_ne hr.r) opl_ne (d_len T.n_len (da_cons (d_ix (dv 0) d_int) da_nil)) (dv 1))))) (dss_one (ds_ret d_bl)) dss_nil)
    (dss_cons (ds_for rfl (di_enumerate T.n_enumerate (da_cons (d_ix (dv 0) d_int) da_nil)) (dg_tup rfl (dgs_cons (dg_name (i := 6) sc_is_branch.nd) (dgs_cons (dg_name (i := 7) sc_is_branch.nd) dgs_nil))) (dss_one (ds_if (t_cmp (ho_eq hr.r) opl_eq (dv 6) (d_sub (dv 5) d_int)) (dss_one (ds_if (t_cmp op_notN opl_isnot (dv 7) d_non) (dss_one (ds_ret d_bl)) dss_nil)) (dss_one (ds_if (t_not (t_val (d_callC (hj := Nat.le_refl _) C_is_branch hr (da_cons (dv 7) (da_cons (dv 1) (da_cons (dv 3) (da_cons (dv 2) (da_cons (d_sub (dv 4) d_int) (da_cons (d_add (dv 6) d_int) da_nil))))))))) (dss_one (ds_ret d_bl)) dss_nil)))))
    (dss_one (ds_ret d_bl)))))))
def t_is_view (G : Gm) : S3 :=
    (s3Seq (s3Expr (e3Call (sp_check_reach G) (a3Cons (e3Var 4) a3Nil)))
    (s3Ret (e3Call (sp_is_branch G) (a3Cons (e3Var 0) (a3Cons (e3Var 1) (a3Cons (e3Var 2) (a3Cons (e3Var 3) (a3Cons (e3Var 4) (a3Cons (e3C (.int 0)) a3Nil)))))))))
theorem der_is_view (T : Txt G mg) {f_check_reach : Addr} {fd_check_reach : FuncData} (C_check_reach : Cal P w G.K mg base 1 f_check_reach fd_check_reach "check_reach" ["reach"] (sp_check_reach G)) {f_is_branch : Addr} {fd_is_branch : FuncData} (C_is_branch : Cal P w G.K mg base 6 f_is_branch fd_is_branch "is_branch" ["value", "D", "own", "other", "reach", "colour"] (sp_is_branch G)) (f : Addr) (cdv : Value) (A : Around) (outer : List Env) (s : Shared) (H : Hp) (E : XK) (hr : RoomG 6 (A.deeper (envOfC "is_view" (defScope s_is_view) s.heap.objs.size f cdv))) :
    DSs (cxOf (L2.CX P w) P w G.K mg base N_is_view "is_view" (defScope s_is_view) f cdv A outer s H E) (defBody s_is_view) (t_is_view G) :=
    (dss_cons (ds_expr (d_callC C_check_reach hr (da_cons (dv 4) da_nil)))
    (dss_one (ds_ret (d_callC C_is_branch hr (da_cons (dv 0) (da_cons (dv 1) (da_cons (dv 2) (da_cons (dv 3) (da_cons (dv 4) (da_cons d_int da_nil))))))))))
def t_law_drawn (G : Gm) (sf : Sp3) : S3 :=
    (s3Seq (s3If (t3Test (e3Op r3Eq (e3Var 4) (e3C (.int 0)))) (s3Ret (e3Tup (a3Cons (e3Call (sp_law_take G) (a3Cons (e3Var 0) (a3Cons (e3Var 2) a3Nil))) a3Nil))) s3Nil)
    (s3Seq (s3Asg (e3Lst a3Nil) 6)
    (s3Seq (s3For (i3Rng2 (a3Cons (e3C (.int 1)) (a3Cons (e3Op r3Add (e3Var 1) (e3C (.int 1))) a3Nil))) (g3Name 7) (s3If (t3Test (e3Op r3Eq (e3Var 7) (e3Var 5))) (s3Expr (e3Bm m3App (e3Var 6) (a3Cons (e3C .non) a3Nil))) (s3Expr (e3Bm m3App (e3Var 6) (a3Cons (e3Call sf (a3Cons (e3Var 0) (a3Cons (e3Var 1) (a3Cons (e3Var 3) (a3Cons (e3Var 2) (a3Cons (e3Op r3Sub (e3Var 4) (e3C (.int 1))) (a3Cons (e3Var 7) a3Nil))))))) a3Nil)))))
    (s3Ret (e3Tup (a3Cons (e3Call (sp_law_take G) (a3Cons (e3Var 0) (a3Cons (e3Var 2) a3Nil))) (a3Cons (e3TupOf (e3Var 6)) a3Nil)))))))
theorem der_law_drawn (T : Txt G mg) {f_law_take : Addr} {fd_law_take : FuncData} (C_law_take : Cal P w G.K mg base 1 f_law_take fd_law_take "_law_take" ["hand", "many"] (sp_law_take G)) {kk : Nat} {sf : Sp3} {f_law_drawn : Addr} {fd_law_drawn : FuncData} (C_law_drawn : Cal P w G.K mg base kk f_law_drawn fd_law_drawn "_law_drawn" ["hand", "colours", "own", "other", "reach", "back"] sf) (hkk : 1 ≤ kk) (f : Addr) (cdv : Value) (A : Around) (outer : List Env) (s : Shared) (H : Hp) (E : XK) (hr : RoomG kk (A.deeper (envOfC "_law_drawn" (defScope s_law_drawn) s.heap.objs.size f cdv))) :
    DSs (cxOf (L2.CX P w) P w G.K mg base N_law_drawn "_law_drawn" (defScope s_law_drawn) f cdv A outer s H E) (defBody s_law_drawn) (t_law_drawn G sf) :=
    (dss_cons (ds_if (t_cmp (ho_eq hr.r) opl_eq (dv 4) d_int) (dss_one (ds_ret (d_tup (da_cons (d_callC (hj := Nat.le_trans (by decide) hkk) C_law_take hr (da_cons (dv 0) (da_cons (dv 2) da_nil))) da_nil)))) dss_nil)
    (dss_cons (ds_set (i := 6) sc_law_drawn.nd (d_lst da_nil))
    (dss_cons (ds_for rfl (di_rng2 T.n_range (da_cons d_int (da_cons (d_add (dv 1) d_int) da_nil))) (dg_name (i := 7) sc_law_drawn.nd) (dss_one (ds_if (t_cmp (ho_eq hr.r) opl_eq (dv 7) (dv 5)) (dss_one (ds_expr (d_append (dv 6) (da_cons d_non da_nil)))) (dss_one (ds_expr (d_append (dv 6) (da_cons (d_callC (hj := Nat.le_refl _) C_law_drawn hr (da_cons (dv 0) (da_cons (dv 1) (da_cons (dv 3) (da_cons (dv 2) (da_cons (d_sub (dv 4) d_int) (da_cons (dv 7) da_nil))))))) da_nil)))))))
    (dss_one (ds_ret (d_tup (da_cons (d_callC (hj := Nat.le_trans (by decide) hkk) C_law_take hr (da_cons (dv 0) (da_cons (dv 2) da_nil))) (da_cons (d_tuple T.n_tuple (dv 6)) da_nil))))))))
def t_law_right (G : Gm) (sf : Sp3) : S3 :=
    (s3Seq (s3If (t3Or (t3Not (t3Test (e3CB c3Isi (a3Cons (e3Var 0) (a3Cons (e3C (.ty "tuple")) a3Nil))))) (t3Test (e3Op r3Ne (e3CB c3Len (a3Cons (e3Var 0) a3Nil)) (e3Op r3Add (e3C (.int 1)) (e3CB c3Int (a3Cons (e3Op r3Gt (e3Var 4) (e3C (.int 0))) a3Nil)))))) (s3Ret (e3C (.bl false))) s3Nil)
    (s3Seq (s3If (t3Or (t3Not (t3Test (e3Call (sp_law_integer G) (a3Cons (e3Op r3Ix (e3Var 0) (e3C (.int 0))) a3Nil)))) (t3Or (t3Test (e3Op r3Lt (e3Op r3Ix (e3Var 0) (e3C (.int 0))) (e3C (.int 0)))) (t3Test (e3Op r3Ge (e3Op r3Ix (e3Var 0) (e3C (.int 0))) (e3Var 2))))) (s3Ret (e3C (.bl false))) s3Nil)
    (s3Seq (s3If (t3Test (e3Op r3Eq (e3Var 4) (e3C (.int 0)))) (s3Ret (e3C (.bl true))) s3Nil)
    (s3Seq (s3If (t3Or (t3Not (t3Test (e3CB c3Isi (a3Cons (e3Op r3Ix (e3Var 0) (e3C (.int 1))) (a3Cons (e3C (.ty "tuple")) a3Nil))))) (t3Test (e3Op r3Ne (e3CB c3Len (a3Cons (e3Op r3Ix (e3Var 0) (e3C (.int 1))) a3Nil)) (e3Var 1)))) (s3Ret (e3C (.bl false))) s3Nil)
    (s3Seq (s3For (i3Rng2 (a3Cons (e3C (.int 1)) (a3Cons (e3Op r3Add (e3Var 1) (e3C (.int 1))) a3Nil))) (g3Name 6) (s3Seq (s3Asg (e3Op r3Ix (e3Op r3Ix (e3Var 0) (e3C (.int 1))) (e3Op r3Sub (e3Var 6) (e3C (.int 1)))) 7)
    (s3If (t3Test (e3Op r3Eq (e3Var 6) (e3Var 5))) (s3If (t3Test (e3Op r3IsNot (e3Var 7) (e3C .non))) (s3Ret (e3C (.bl false))) s3Nil) (s3If (t3Not (t3Test (e3Call sf (a3Cons (e3Var 7) (a3Cons (e3Var 1) (a3Cons (e3Var 3) (a3Cons (e3Var 2) (a3Cons (e3Op r3Sub (e3Var 4) (e3C (.int 1))) (a3Cons (e3Var 6) a3Nil))))))))) (s3Ret (e3C (.bl false))) s3Nil))))
    (s3Ret (e3C (.bl true))))))))
theorem der_law_right (T : Txt G mg) {f_law_integer : Addr} {fd_law_integer : FuncData} (C_law_integer : Cal P w G.K mg base 1 f_law_integer fd_law_integer "_law_integer" ["value"] (sp_law_integer G)) {kk : Nat} {sf : Sp3} {f_law_right : Addr} {fd_law_right : FuncData} (C_law_right : Cal P w G.K mg base kk f_law_right fd_law_right "_law_right" ["value", "colours", "own", "other", "reach", "back"] sf) (hkk : 1 ≤ kk) (f : Addr) (cdv : Value) (A : Around) (outer : List Env) (s : Shared) (H : Hp) (E : XK) (hr : RoomG kk (A.deeper (envOfC "_law_right" (defScope s_law_right) s.heap.objs.size f cdv))) :
    DSs (cxOf (L2.CX P w) P w G.K mg base N_law_right "_law_right" (defScope s_law_right) f cdv A outer s H E) (defBody s_law_right) (t_law_right G sf) :=
    (dss_cons (ds_if (t_w (w_or (t_not (t_val (d_isi T.n_isinstance (da_cons (dv 0) (da_cons (d_ty (n := "tuple") rfl T.n_tuple (by decide +kernel)) da_nil))))) (w_one (t_cmp (ho_ne hr.r) opl_ne (d_len T.n_len (da_cons (dv 0) da_nil)) (d_add d_int (d_intc T.n_int (da_cons (d_cmp op_gt opl_Gt (dv 4) d_int) da_nil))))))) (dss_one (ds_ret d_bl)) dss_nil)
    (dss_cons (ds_if (t_w (w_or (t_not (t_val (d_callC (hj := Nat.le_trans (by decide) hkk) C_law_integer hr (da_cons (d_ix (dv 0) d_int) da_nil)))) (w_or (t_cmp op_lt opl_Lt (d_ix (dv 0) d_int) d_int) (w_one (t_cmp op_ge opl_Ge (d_ix (dv 0) d_int) (dv 2)))))) (dss_one (ds_ret d_bl)) dss_nil)
    (dss_cons (ds_if (t_cmp (ho_eq hr.r) opl_eq (dv 4) d_int) (dss_one (ds_ret d_bl)) dss_nil)
    (dss_cons (ds_if (t_w (w_or (t_not (t_val (d_isi T.n_isinstance (da_cons (d_ix (dv 0) d_int) (da_cons (d_ty (n := "tuple") rfl T.n_tuple (by decide +kernel)) da_nil))))) (w_one (t_cmp (ho_ne hr.r) opl_ne (d_len T.n_len (da_cons (d_ix (dv 0) d_int) da_nil)) (dv 1))))) (dss_one (ds_ret d_bl)) dss_nil)
    (dss_cons (ds_for rfl (di_rng2 T.n_range (da_cons d_int (da_cons (d_add (dv 1) d_int) da_nil))) (dg_name (i := 6) sc_law_right.nd) (dss_cons (ds_set (i := 7) sc_law_right.nd (d_ix (d_ix (dv 0) d_int) (d_sub (dv 6) d_int)))
    (dss_one (ds_if (t_cmp (ho_eq hr.r) opl_eq (dv 6) (dv 5)) (dss_one (ds_if (t_cmp op_notN opl_isnot (dv 7) d_non) (dss_one (ds_ret d_bl)) dss_nil)) (dss_one (ds_if (t_not (t_val (d_callC (hj := Nat.le_refl _) C_law_right hr (da_cons (dv 7) (da_cons (dv 1) (da_cons (dv 3) (da_cons (dv 2) (da_cons (d_sub (dv 4) d_int) (da_cons (dv 6) da_nil))))))))) (dss_one (ds_ret d_bl)) dss_nil))))))
    (dss_one (ds_ret d_bl)))))))
def t_law_changed (G : Gm) (sf : Sp3) : S3 :=
    (s3Seq (s3If (t3Or (t3Test (e3Op r3Eq (e3Var 4) (e3C (.int 0)))) (t3Test (e3Op r3Lt (e3CB c3Len (a3Cons (e3Var 1) a3Nil)) (e3C (.int 2))))) (s3Ret (e3Call (sp_law_here G) (a3Cons (e3Var 0) (a3Cons (e3Var 1) (a3Cons (e3Var 2) a3Nil))))) s3Nil)
    (s3Seq (s3Asg (e3Call (sp_law_take G) (a3Cons (e3Var 0) (a3Cons (e3CB c3Len (a3Cons (e3Op r3Ix (e3Var 1) (e3C (.int 1))) a3Nil)) a3Nil))) 5)
    (s3Seq (s3Asg (e3Op r3Ix (e3Op r3Ix (e3Var 1) (e3C (.int 1))) (e3Var 5)) 6)
    (s3Seq (s3If (t3Test (e3Op r3Is (e3Var 6) (e3C .non))) (s3Ret (e3Tup (a3Cons (e3Op r3Ix (e3Var 1) (e3C (.int 0))) (a3Cons (e3Op r3Add (e3Op r3Add (e3Sl (e3Op r3Ix (e3Var 1) (e3C (.int 1))) o3None (o3Some (e3Var 5))) (e3Tup (a3Cons (e3Op r3Ix (e3Lst (a3Cons (e3Tup (a3Cons (e3C (.int 0)) a3Nil)) (a3Cons (e3C (.int 0)) (a3Cons (e3Tup a3Nil) (a3Cons (e3C (.bl false)) a3Nil))))) (e3Call (sp_law_take G) (a3Cons (e3Var 0) (a3Cons (e3C (.int 4)) a3Nil)))) a3Nil))) (e3Sl (e3Op r3Ix (e3Var 1) (e3C (.int 1))) (o3Some (e3Op r3Add (e3Var 5) (e3C (.int 1)))) o3None)) a3Nil)))) s3Nil)
    (s3Seq (s3Asg (e3Call sf (a3Cons (e3Var 0) (a3Cons (e3Var 6) (a3Cons (e3Var 3) (a3Cons (e3Var 2) (a3Cons (e3Op r3Sub (e3Var 4) (e3C (.int 1))) a3Nil)))))) 7)
    (s3Ret (e3Tup (a3Cons (e3Op r3Ix (e3Var 1) (e3C (.int 0))) (a3Cons (e3Op r3Add (e3Op r3Add (e3Sl (e3Op r3Ix (e3Var 1) (e3C (.int 1))) o3None (o3Some (e3Var 5))) (e3Tup (a3Cons (e3Var 7) a3Nil))) (e3Sl (e3Op r3Ix (e3Var 1) (e3C (.int 1))) (o3Some (e3Op r3Add (e3Var 5) (e3C (.int 1)))) o3None)) a3Nil)))))))))
theorem der_law_changed (T : Txt G mg) {f_law_here : Addr} {fd_law_here : FuncData} (C_law_here : Cal P w G.K mg base 2 f_law_here fd_law_here "_law_here" ["hand", "value", "own"] (sp_law_here G)) {f_law_take : Addr} {fd_law_take : FuncData} (C_law_take : Cal P w G.K mg base 1 f_law_take fd_law_take "_law_take" ["hand", "many"] (sp_law_take G)) {kk : Nat} {sf : Sp3} {f_law_changed : Addr} {fd_law_changed : FuncData} (C_law_changed : Cal P w G.K mg base kk f_law_changed fd_law_changed "_law_changed" ["hand", "value", "own", "other", "depth"] sf) (hkk : 2 ≤ kk) (f : Addr) (cdv : Value) (A : Around) (outer : List Env) (s : Shared) (H : Hp) (E : XK) (hr : RoomG kk (A.deeper (envOfC "_law_changed" (defScope s_law_changed) s.heap.objs.size f cdv))) :
    DSs (cxOf (L2.CX P w) P w G.K mg base N_law_changed "_law_changed" (defScope s_law_changed) f cdv A outer s H E) (defBody s_law_changed) (t_law_changed G sf) :=
    (dss_cons (ds_if (t_w (w_or (t_cmp (ho_eq hr.r) opl_eq (dv 4) d_int) (w_one (t_cmp op_lt opl_Lt (d_len T.n_len (da_cons (dv 1) da_nil)) d_int)))) (dss_one (ds_ret (d_callC (hj := Nat.le_trans (by decide) hkk) C_law_here hr (da_cons (dv 0) (da_cons (dv 1) (da_cons (dv 2) da_nil)))))) dss_nil)
    (dss_cons (ds_set (i := 5) sc_law_changed.nd (d_callC (hj := Nat.le_trans (by decide) hkk) C_law_take hr (da_cons (dv 0) (da_cons (d_len T.n_len (da_cons (d_ix (dv 1) d_int) da_nil)) da_nil))))
    (dss_cons (ds_set (i := 6) sc_law_changed.nd (d_ix (d_ix (dv 1) d_int) (dv 5)))
    (dss_cons (ds_if (t_cmp op_isN opl_is (dv 6) d_non) (dss_one (ds_ret (d_tup (da_cons (d_ix (dv 1) d_int) (da_cons (d_add (d_add (d_sl (d_ix (dv 1) d_int) do_none (do_some (dv 5))) (d_tup (da_cons (d_ix (d_lst (da_cons (d_tup (da_cons d_int da_nil)) (da_cons d_int (da_cons (d_tup da_nil) (da_cons d_bl da_nil))))) (d_callC (hj := Nat.le_trans (by decide) hkk) C_law_take hr (da_cons (dv 0) (da_cons d_int da_nil)))) da_nil))) (d_sl (d_ix (dv 1) d_int) (do_some (d_add (dv 5) d_int)) do_none)) da_nil))))) dss_nil)
    (dss_cons (ds_set (i := 7) sc_law_changed.nd (d_callC (hj := Nat.le_refl _) C_law_changed hr (da_cons (dv 0) (da_cons (dv 6) (da_cons (dv 3) (da_cons (dv 2) (da_cons (d_sub (dv 4) d_int) da_nil)))))))
    (dss_one (ds_ret (d_tup (da_cons (d_ix (dv 1) d_int) (da_cons (d_add (d_add (d_sl (d_ix (dv 1) d_int) do_none (do_some (dv 5))) (d_tup (da_cons (dv 7) da_nil))) (d_sl (d_ix (dv 1) d_int) (do_some (d_add (dv 5) d_int)) do_none)) da_nil))))))))))
def t_law_refused (G : Gm) : S3 :=
    (s3Seq (s3Try G.K (.ref G.BadReach) (s3Expr (e3Call (sp_is_view G) (a3Cons (e3Var 0) (a3Cons (e3Var 1) (a3Cons (e3Var 2) (a3Cons (e3Var 3) (a3Cons (e3Var 4) a3Nil))))))) (s3Ret (e3C (.bl true))))
    (s3Ret (e3C (.bl false))))
theorem der_law_refused (T : Txt G mg) {f_is_view : Addr} {fd_is_view : FuncData} (C_is_view : Cal P w G.K mg base 7 f_is_view fd_is_view "is_view" ["value", "D", "own", "other", "reach"] (sp_is_view G)) (f : Addr) (cdv : Value) (A : Around) (outer : List Env) (s : Shared) (H : Hp) (E : XK) (hr : RoomG 7 (A.deeper (envOfC "_law_refused" (defScope s_law_refused) s.heap.objs.size f cdv))) :
    DSs (cxOf (L2.CX P w) P w G.K mg base N_law_refused "_law_refused" (defScope s_law_refused) f cdv A outer s H E) (defBody s_law_refused) (t_law_refused G) :=
    (dss_cons (ds_try rfl rfl ⟨rfl, by decide, .inl T.x_BadReach.g⟩ (fun _ _ => (dss_one (ds_expr (d_callC C_is_view hr (da_cons (dv 0) (da_cons (dv 1) (da_cons (dv 2) (da_cons (dv 3) (da_cons (dv 4) da_nil))))))))) (fun _ _ _ => (dss_one (ds_ret d_bl))))
    (dss_one (ds_ret d_bl)))
def t_law_value (G : Gm) : S3 :=
    (s3Seq (s3Asg (e3Call (sp_law_take G) (a3Cons (e3Var 0) (a3Cons (e3C (.int 12)) a3Nil))) 5)
    (s3Seq (s3If (t3Test (e3Op r3Eq (e3Var 5) (e3C (.int 0)))) (s3Ret (e3Call (sp_law_drawn G) (a3Cons (e3Var 0) (a3Cons (e3Var 1) (a3Cons (e3Var 3) (a3Cons (e3Var 2) (a3Cons (e3Var 4) (a3Cons (e3C (.int 0)) a3Nil)))))))) s3Nil)
    (s3Seq (s3If (t3Test (e3Op r3Eq (e3Var 5) (e3C (.int 1)))) (s3Ret (e3Call (sp_law_drawn G) (a3Cons (e3Var 0) (a3Cons (e3Var 1) (a3Cons (e3Var 2) (a3Cons (e3Var 3) (a3Cons (e3Var 4) (a3Cons (e3Op r3Add (e3C (.int 1)) (e3Call (sp_law_take G) (a3Cons (e3Var 0) (a3Cons (e3Var 1) a3Nil)))) a3Nil)))))))) s3Nil)
    (s3Seq (s3If (t3Test (e3Op r3Eq (e3Var 5) (e3C (.int 2)))) (s3Ret (e3Call (sp_law_drawn G) (a3Cons (e3Var 0) (a3Cons (e3Var 1) (a3Cons (e3Var 2) (a3Cons (e3Var 3) (a3Cons (e3CB c3Max (a3Cons (e3C (.int 0)) (a3Cons (e3Op r3Sub (e3Var 4) (e3C (.int 1))) a3Nil))) (a3Cons (e3C (.int 0)) a3Nil)))))))) s3Nil)
    (s3Seq (s3If (t3And (t3Test (e3Op r3Eq (e3Var 5) (e3C (.int 3)))) (t3Test (e3Op r3Lt (e3Var 4) (e3C (.int 3))))) (s3Ret (e3Call (sp_law_drawn G) (a3Cons (e3Var 0) (a3Cons (e3Var 1) (a3Cons (e3Var 2) (a3Cons (e3Var 3) (a3Cons (e3Op r3Add (e3Var 4) (e3C (.int 1))) (a3Cons (e3C (.int 0)) a3Nil)))))))) s3Nil)
    (s3Seq (s3If (t3Test (e3Op r3Eq (e3Var 5) (e3C (.int 4)))) (s3Ret (e3Op r3Ix (e3Lst (a3Cons (e3C .non) (a3Cons (e3C (.bl true)) (a3Cons (e3C (.int 0)) (a3Cons (e3C (.str "")) (a3Cons (e3C (.str "(0,)")) (a3Cons (e3Lst a3Nil) (a3Cons e3DNew (a3Cons (e3Disp [((e3C (.int 0)), (e3Tup (a3Cons (e3C (.int 0)) a3Nil)))]) (a3Cons (e3Tup (a3Cons (e3Tup a3Nil) a3Nil)) (a3Cons (e3Lst (a3Cons (e3C (.int 0)) a3Nil)) (a3Cons (e3Tup a3Nil) (a3Cons (e3Tup (a3Cons (e3C (.int 0)) (a3Cons (e3Tup a3Nil) a3Nil))) a3Nil))))))))))))) (e3Call (sp_law_take G) (a3Cons (e3Var 0) (a3Cons (e3C (.int 12)) a3Nil))))) s3Nil)
    (s3Seq (s3Asg (e3Call (sp_law_drawn G) (a3Cons (e3Var 0) (a3Cons (e3Var 1) (a3Cons (e3Var 2) (a3Cons (e3Var 3) (a3Cons (e3Var 4) (a3Cons (e3C (.int 0)) a3Nil))))))) 6)
    (s3Seq (s3If (t3Test (e3Op r3Lt (e3Var 5) (e3C (.int 7)))) (s3Ret (e3Var 6)) s3Nil)
    (s3Ret (e3Call (sp_law_changed G) (a3Cons (e3Var 0) (a3Cons (e3Var 6) (a3Cons (e3Var 2) (a3Cons (e3Var 3) (a3Cons (e3Call (sp_law_take G) (a3Cons (e3Var 0) (a3Cons (e3Op r3Add (e3Var 4) (e3C (.int 1))) a3Nil))) a3Nil)))))))))))))))
theorem der_law_value (T : Txt G mg) {f_law_take : Addr} {fd_law_take : FuncData} (C_law_take : Cal P w G.K mg base 1 f_law_take fd_law_take "_law_take" ["hand", "many"] (sp_law_take G)) {f_law_drawn : Addr} {fd_law_drawn : FuncData} (C_law_drawn : Cal P w G.K mg base 7 f_law_drawn fd_law_drawn "_law_drawn" ["hand", "colours", "own", "other", "reach", "back"] (sp_law_drawn G)) {f_law_changed : Addr} {fd_law_changed : FuncData} (C_law_changed : Cal P w G.K mg base 8 f_law_changed fd_law_changed "_law_changed" ["hand", "value", "own", "other", "depth"] (sp_law_changed G)) (f : Addr) (cdv : Value) (A : Around) (outer : List Env) (s : Shared) (H : Hp) (E : XK) (hr : RoomG 8 (A.deeper (envOfC "_law_value" (defScope s_law_value) s.heap.objs.size f cdv))) :
    DSs (cxOf (L2.CX P w) P w G.K mg base N_law_value "_law_value" (defScope s_law_value) f cdv A outer s H E) (defBody s_law_value) (t_law_value G) :=
    (dss_cons (ds_set (i := 5) sc_law_value.nd (d_callC C_law_take hr (da_cons (dv 0) (da_cons d_int da_nil))))
    (dss_cons (ds_if (t_cmp (ho_eq hr.r) opl_eq (dv 5) d_int) (dss_one (ds_ret (d_callC C_law_drawn hr (da_cons (dv 0) (da_cons (dv 1) (da_cons (dv 3) (da_cons (dv 2) (da_cons (dv 4) (da_cons d_int da_nil))))))))) dss_nil)
    (dss_cons (ds_if (t_cmp (ho_eq hr.r) opl_eq (dv 5) d_int) (dss_one (ds_ret (d_callC C_law_drawn hr (da_cons (dv 0) (da_cons (dv 1) (da_cons (dv 2) (da_cons (dv 3) (da_cons (dv 4) (da_cons (d_add d_int (d_callC C_law_take hr (da_cons (dv 0) (da_cons (dv 1) da_nil)))) da_nil))))))))) dss_nil)
    (dss_cons (ds_if (t_cmp (ho_eq hr.r) opl_eq (dv 5) d_int) (dss_one (ds_ret (d_callC C_law_drawn hr (da_cons (dv 0) (da_cons (dv 1) (da_cons (dv 2) (da_cons (dv 3) (da_cons (d_max rfl T.n_max (da_cons d_int (da_cons (d_sub (dv 4) d_int) da_nil))) (da_cons d_int da_nil))))))))) dss_nil)
    (dss_cons (ds_if (t_w (w_and (t_cmp (ho_eq hr.r) opl_eq (dv 5) d_int) (w_one (t_cmp op_lt opl_Lt (dv 4) d_int)))) (dss_one (ds_ret (d_callC C_law_drawn hr (da_cons (dv 0) (da_cons (dv 1) (da_cons (dv 2) (da_cons (dv 3) (da_cons (d_add (dv 4) d_int) (da_cons d_int da_nil))))))))) dss_nil)
    (dss_cons (ds_if (t_cmp (ho_eq hr.r) opl_eq (dv 5) d_int) (dss_one (ds_ret (d_ix (d_lst (da_cons d_non (da_cons d_bl (da_cons d_int (da_cons d_str (da_cons d_str (da_cons (d_lst da_nil) (da_cons d_dnew (da_cons (d_disp (.cons d_int (d_tup (da_cons d_int da_nil)) .nil)) (da_cons (d_tup (da_cons (d_tup da_nil) da_nil)) (da_cons (d_lst (da_cons d_int da_nil)) (da_cons (d_tup da_nil) (da_cons (d_tup (da_cons d_int (da_cons (d_tup da_nil) da_nil))) da_nil))))))))))))) (d_callC C_law_take hr (da_cons (dv 0) (da_cons d_int da_nil)))))) dss_nil)
    (dss_cons (ds_set (i := 6) sc_law_value.nd (d_callC C_law_drawn hr (da_cons (dv 0) (da_cons (dv 1) (da_cons (dv 2) (da_cons (dv 3) (da_cons (dv 4) (da_cons d_int da_nil))))))))
    (dss_cons (ds_if (t_cmp op_lt opl_Lt (dv 5) d_int) (dss_one (ds_ret (dv 6))) dss_nil)
    (dss_one (ds_ret (d_callC C_law_changed hr (da_cons (dv 0) (da_cons (dv 6) (da_cons (dv 2) (da_cons (dv 3) (da_cons (d_callC C_law_take hr (da_cons (dv 0) (da_cons (d_add (dv 4) d_int) da_nil))) da_nil))))))))))))))))
def t_law_all (G : Gm) : S3 :=
    (s3Seq (s3Asg (e3Lst (a3Cons (e3Call (sp_law_draws G) (a3Cons (e3Var 0) (a3Cons (e3C (.int 400)) a3Nil))) (a3Cons (e3C (.int 0)) a3Nil))) 1)
    (s3Seq (s3For (i3Rng1 (a3Cons (e3C (.int 6)) a3Nil)) (g3Name 2) (s3Seq (s3Asg (e3Op r3Add (e3C (.int 2)) (e3Call (sp_law_take G) (a3Cons (e3Var 1) (a3Cons (e3C (.int 3)) a3Nil)))) 5)
    (s3Seq (s3Asg (e3Op r3Add (e3C (.int 1)) (e3Call (sp_law_take G) (a3Cons (e3Var 1) (a3Cons (e3C (.int 4)) a3Nil)))) 6)
    (s3Seq (s3Asg (e3Op r3Add (e3C (.int 1)) (e3Call (sp_law_take G) (a3Cons (e3Var 1) (a3Cons (e3C (.int 4)) a3Nil)))) 7)
    (s3Seq (s3Asg (e3Call (sp_law_take G) (a3Cons (e3Var 1) (a3Cons (e3Op r3Sub (e3Op r3Sub (e3C (.int 5)) (e3CB c3Int (a3Cons (e3Op r3Gt (e3Var 5) (e3C (.int 2))) a3Nil))) (e3CB c3Int (a3Cons (e3Op r3Gt (e3Var 5) (e3C (.int 3))) a3Nil))) a3Nil))) 8)
    (s3Seq (s3Asg (e3Call (sp_law_value G) (a3Cons (e3Var 1) (a3Cons (e3Var 5) (a3Cons (e3Var 6) (a3Cons (e3Var 7) (a3Cons (e3Var 8) a3Nil)))))) 9)
    (s3Seq (s3Asg (e3CB c3ReprX (a3Cons (e3Var 9) a3Nil)) 10)
    (s3Seq (s3Asg (e3Call (sp_law_right G) (a3Cons (e3Var 9) (a3Cons (e3Var 5) (a3Cons (e3Var 6) (a3Cons (e3Var 7) (a3Cons (e3Var 8) (a3Cons (e3C (.int 0)) a3Nil))))))) 11)
    (s3Seq (s3For (i3Rng1 (a3Cons (e3C (.int 2)) a3Nil)) (g3Name 12) (s3Seq (s3Asg (e3Call (sp_is_view G) (a3Cons (e3Var 9) (a3Cons (e3Var 5) (a3Cons (e3Var 6) (a3Cons (e3Var 7) (a3Cons (e3Var 8) a3Nil)))))) 4)
    (s3If (t3Or (t3Not (t3Test (e3CB c3Isi (a3Cons (e3Var 4) (a3Cons (e3C (.ty "bool")) a3Nil))))) (t3Or (t3Test (e3Op r3Ne (e3Var 4) (e3Var 11))) (t3Test (e3Op r3Ne (e3CB c3ReprX (a3Cons (e3Var 9) a3Nil)) (e3Var 10))))) (s3Ret (e3C (.bl false))) s3Nil)))
    (s3Seq (s3Asg (e3Op r3Ix (e3Lst (a3Cons (e3Neg (e3C (.int 1))) (a3Cons (e3C (.int 5)) (a3Cons (e3C (.bl true)) (a3Cons (e3C (.bl false)) (a3Cons (e3C .non) (a3Cons (e3C (.str "1")) (a3Cons (e3Op r3Pow (e3C (.int 10)) (e3C (.int 30))) (a3Cons (e3Tup (a3Cons (e3C (.int 2)) a3Nil)) a3Nil))))))))) (e3Call (sp_law_take G) (a3Cons (e3Var 1) (a3Cons (e3C (.int 8)) a3Nil)))) 13)
    (s3If (t3Not (t3Test (e3Call (sp_law_refused G) (a3Cons (e3Var 9) (a3Cons (e3Var 5) (a3Cons (e3Var 6) (a3Cons (e3Var 7) (a3Cons (e3Var 13) a3Nil)))))))) (s3Ret (e3C (.bl false))) s3Nil)))))))))))
    (s3Seq (s3Asg (e3Call (sp_law_drawn G) (a3Cons (e3Var 1) (a3Cons (e3C (.int 2)) (a3Cons (e3C (.int 4)) (a3Cons (e3C (.int 3)) (a3Cons (e3C (.int 4)) (a3Cons (e3C (.int 0)) a3Nil))))))) 3)
    (s3Seq (s3Asg (e3Call (sp_is_view G) (a3Cons (e3Var 3) (a3Cons (e3C (.int 2)) (a3Cons (e3C (.int 4)) (a3Cons (e3C (.int 3)) (a3Cons (e3C (.int 4)) a3Nil)))))) 4)
    (s3Ret (e3And (e3CB c3Isi (a3Cons (e3Var 4) (a3Cons (e3C (.ty "bool")) a3Nil))) (e3Var 4)))))))
theorem der_law_all (T : Txt G mg) {f_law_draws : Addr} {fd_law_draws : FuncData} (C_law_draws : Cal P w G.K mg base 1 f_law_draws fd_law_draws "_law_draws" ["script", "many"] (sp_law_draws G)) {f_law_take : Addr} {fd_law_take : FuncData} (C_law_take : Cal P w G.K mg base 1 f_law_take fd_law_take "_law_take" ["hand", "many"] (sp_law_take G)) {f_law_value : Addr} {fd_law_value : FuncData} (C_law_value : Cal P w G.K mg base 9 f_law_value fd_law_value "_law_value" ["hand", "colours", "own", "other", "reach"] (sp_law_value G)) {f_law_right : Addr} {fd_law_right : FuncData} (C_law_right : Cal P w G.K mg base 7 f_law_right fd_law_right "_law_right" ["value", "colours", "own", "other", "reach", "back"] (sp_law_right G)) {f_is_view : Addr} {fd_is_view : FuncData} (C_is_view : Cal P w G.K mg base 7 f_is_view fd_is_view "is_view" ["value", "D", "own", "other", "reach"] (sp_is_view G)) {f_law_refused : Addr} {fd_law_refused : FuncData} (C_law_refused : Cal P w G.K mg base 8 f_law_refused fd_law_refused "_law_refused" ["value", "colours", "own", "other", "reach"] (sp_law_refused G)) {f_law_drawn : Addr} {fd_law_drawn : FuncData} (C_law_drawn : Cal P w G.K mg base 7 f_law_drawn fd_law_drawn "_law_drawn" ["hand", "colours", "own", "other", "reach", "back"] (sp_law_drawn G)) (f : Addr) (cdv : Value) (A : Around) (outer : List Env) (s : Shared) (H : Hp) (E : XK) (hr : RoomG 9 (A.deeper (envOfC "_law_all" (defScope s_law_all) s.heap.objs.size f cdv))) :
    DSs (cxOf (L2.CX P w) P w G.K mg base N_law_all "_law_all" (defScope s_law_all) f cdv A outer s H E) (defBody s_law_all) (t_law_all G) :=
    (dss_cons (ds_set (i := 1) sc_law_all.nd (d_lst (da_cons (d_callC C_law_draws hr (da_cons (dv 0) (da_cons d_int da_nil))) (da_cons d_int da_nil))))
    (dss_cons (ds_for rfl (di_rng1 T.n_range (da_cons d_int da_nil)) (dg_name (i := 2) sc_law_all.nd) (dss_cons (ds_set (i := 5) sc_law_all.nd (d_add d_int (d_callC C_law_take hr (da_cons (dv 1) (da_cons d_int da_nil)))))
    (dss_cons (ds_set (i := 6) sc_law_all.nd (d_add d_int (d_callC C_law_take hr (da_cons (dv 1) (da_cons d_int da_nil)))))
    (dss_cons (ds_set (i := 7) sc_law_all.nd (d_add d_int (d_callC C_law_take hr (da_cons (dv 1) (da_cons d_int da_nil)))))
    (dss_cons (ds_set (i := 8) sc_law_all.nd (d_callC C_law_take hr (da_cons (dv 1) (da_cons (d_sub (d_sub d_int (d_intc T.n_int (da_cons (d_cmp op_gt opl_Gt (dv 5) d_int) da_nil))) (d_intc T.n_int (da_cons (d_cmp op_gt opl_Gt (dv 5) d_int) da_nil))) da_nil))))
    (dss_cons (ds_set (i := 9) sc_law_all.nd (d_callC C_law_value hr (da_cons (dv 1) (da_cons (dv 5) (da_cons (dv 6) (da_cons (dv 7) (da_cons (dv 8) da_nil)))))))
    (dss_cons (ds_set (i := 10) sc_law_all.nd (d_reprX hr T.n_repr (da_cons (dv 9) da_nil)))
    (dss_cons (ds_set (i := 11) sc_law_all.nd (d_callC C_law_right hr (da_cons (dv 9) (da_cons (dv 5) (da_cons (dv 6) (da_cons (dv 7) (da_cons (dv 8) (da_cons d_int da_nil))))))))
    (dss_cons (ds_for rfl (di_rng1 T.n_range (da_cons d_int da_nil)) (dg_name (i := 12) sc_law_all.nd) (dss_cons (ds_set (i := 4) sc_law_all.nd (d_callC C_is_view hr (da_cons (dv 9) (da_cons (dv 5) (da_cons (dv 6) (da_cons (dv 7) (da_cons (dv 8) da_nil)))))))
    (dss_one (ds_if (t_w (w_or (t_not (t_val (d_isi T.n_isinstance (da_cons (dv 4) (da_cons (d_ty (n := "bool") rfl T.n_bool (by decide +kernel)) da_nil))))) (w_or (t_cmp (ho_ne hr.r) opl_ne (dv 4) (dv 11)) (w_one (t_cmp (ho_ne hr.r) opl_ne (d_reprX hr T.n_repr (da_cons (dv 9) da_nil)) (dv 10)))))) (dss_one (ds_ret d_bl)) dss_nil))))
    (dss_cons (ds_set (i := 13) sc_law_all.nd (d_ix (d_lst (da_cons (d_neg d_int) (da_cons d_int (da_cons d_bl (da_cons d_bl (da_cons d_non (da_cons d_str (da_cons (d_pow d_int d_int) (da_cons (d_tup (da_cons d_int da_nil)) da_nil))))))))) (d_callC C_law_take hr (da_cons (dv 1) (da_cons d_int da_nil)))))
    (dss_one (ds_if (t_not (t_val (d_callC C_law_refused hr (da_cons (dv 9) (da_cons (dv 5) (da_cons (dv 6) (da_cons (dv 7) (da_cons (dv 13) da_nil)))))))) (dss_one (ds_ret d_bl)) dss_nil))))))))))))
    (dss_cons (ds_set (i := 3) sc_law_all.nd (d_callC C_law_drawn hr (da_cons (dv 1) (da_cons d_int (da_cons d_int (da_cons d_int (da_cons d_int (da_cons d_int da_nil))))))))
    (dss_cons (ds_set (i := 4) sc_law_all.nd (d_callC C_is_view hr (da_cons (dv 3) (da_cons d_int (da_cons d_int (da_cons d_int (da_cons d_int da_nil)))))))
    (dss_one (ds_ret (d_and (d_isi T.n_isinstance (da_cons (dv 4) (da_cons (d_ty (n := "bool") rfl T.n_bool (by decide +kernel)) da_nil))) (d_one (dv 4)))))))))
def t_law (G : Gm) : S3 :=
    (s3Try G.K (.ref G.LookError) (s3Ret (e3Call (sp_law_all G) (a3Cons (e3Var 0) a3Nil))) (s3Ret (e3C (.bl false))))
theorem der_law (T : Txt G mg) {f_law_all : Addr} {fd_law_all : FuncData} (C_law_all : Cal P w G.K mg base 10 f_law_all fd_law_all "_law_all" ["script"] (sp_law_all G)) (f : Addr) (cdv : Value) (A : Around) (outer : List Env) (s : Shared) (H : Hp) (E : XK) (hr : RoomG 10 (A.deeper (envOfC "law" (defScope s_law) s.heap.objs.size f cdv))) :
    DSs (cxOf (L2.CX P w) P w G.K mg base N_law "law" (defScope s_law) f cdv A outer s H E) (defBody s_law) (t_law G) :=
    (dss_one (ds_try rfl rfl ⟨rfl, by decide, .inl T.x_LookError.g⟩ (fun _ _ => (dss_one (ds_ret (d_callC C_law_all hr (da_cons (dv 0) da_nil))))) (fun _ _ _ => (dss_one (ds_ret d_bl)))))
end My

namespace My
open PySem PySem.Spec PyProof.Rows L2 L3
variable {P : Program} {w : World} {G : Gm} {mg : Str → Option Value} {base : Heap}
theorem rd_check_reach (T : Txt G mg) : Rd3 N_check_reach (t_check_reach G) (sp_check_reach G) := by
  rintro ds M Q E ⟨d, rfl, hk, q, qe⟩
  have err : isNum d 0 4 = false → rtX E (.ref G.BadReach) none (startE N_check_reach [d]) M := fun h => ⟨M, Sub.refl _, qe h⟩
  conv => whnf
  refine isi_int hk ?_ ?_ ?_
  · intro i e
    subst e
    refine Br.ff ?_
    conv => whnf
    refine isi_bool hk (fun b e => nomatch e) ?_
    intro _
    refine Br.ff ?_
    conv => whnf
    refine ⟨fun e1 => ⟨fun e2 => err ?_, fun e2 => ⟨M, Sub.refl _, q ?_⟩⟩, fun e1 => ⟨fun _ => err ?_, fun e2 => by cases e2⟩⟩
    · show (decide (0 ≤ i) && decide (i ≤ 4)) = false
      rw [e1, Bool.true_and]
      simpa using e2
    · show (decide (0 ≤ i) && decide (i ≤ 4)) = true
      rw [e1, Bool.true_and]
      simpa using e2
    · show (decide (0 ≤ i) && decide (i ≤ 4)) = false
      rw [e1, Bool.false_and]
  · intro b e
    subst e
    refine Br.ff ?_
    conv => whnf
    refine isi_bool hk ?_ ?_
    · exact fun b' e => Br.tt (Br.tt (err rfl))
    · exact fun h => absurd rfl (h b)
  · intro h1 h2
    refine Br.tt (Br.tt (err ?_))
    cases d with
    | int i => exact absurd rfl (h1 i)
    | _ => rfl
/-- one list more -/
def stepF (l : List D) : D → List D
  | .tup r => l.map fun x => .tup (r ++ [x])
  | _ => []
theorem rd_law_draws (T : Txt G mg) : Rd3 N_law_draws (t_law_draws G) (sp_law_draws G) := rdDraws
theorem rd_law_take (T : Txt G mg) : Rd3 N_law_take (t_law_take G) (sp_law_take G) := rdTakeD
theorem len_check_reach : ∀ ds M Q E, sp_check_reach G ds M Q E → ds.length = 1 := fun ds M Q E ⟨_, e, _⟩ => by rw [e]; rfl
theorem len_is_view : ∀ ds M Q E, sp_is_view G ds M Q E → ds.length = 5 := fun ds M Q E ⟨_, _, _, _, _, e, _⟩ => by rw [e]; rfl
theorem len_brd (n : Nat) : ∀ ds M Q E, spBrD n ds M Q E → ds.length = 6 := fun ds M Q E ⟨_, _, _, _, _, _, e, _⟩ => by rw [e]; rfl
theorem len_is_branch (n : Nat) : ∀ ds M Q E, spBrD n ds M Q E → ds.length = 6 := len_brd n
theorem len_law_right (n : Nat) : ∀ ds M Q E, spBrD n ds M Q E → ds.length = 6 := len_brd n
theorem len_law_draws : ∀ ds M Q E, sp_law_draws G ds M Q E → ds.length = 2 := fun ds M Q E ⟨_, _, _, e, _⟩ => by rw [e]; rfl
theorem len_law_take : ∀ ds M Q E, sp_law_take G ds M Q E → ds.length = 2 := fun ds M Q E ⟨_, _, _, _, e, _⟩ => by rw [e]; rfl
theorem len_law_integer : ∀ ds M Q E, sp_law_integer G ds M Q E → ds.length = 1 := fun ds M Q E ⟨_, e, _⟩ => by rw [e]; rfl
theorem len_law_refused : ∀ ds M Q E, sp_law_refused G ds M Q E → ds.length = 5 := fun ds M Q E ⟨_, _, _, _, _, e, _⟩ => by rw [e]; rfl
theorem len_law_all : ∀ ds M Q E, sp_law_all G ds M Q E → ds.length = 1 := fun ds M Q E ⟨_, _, e, _⟩ => by rw [e]; rfl
theorem len_law : ∀ ds M Q E, sp_law G ds M Q E → ds.length = 1 := fun ds M Q E ⟨_, _, e, _⟩ => by rw [e]; rfl
theorem len_law_here : ∀ ds M Q E, sp_law_here G ds M Q E → ds.length = 3 := fun ds M Q E ⟨_, _, _, _, _, _, _, _, _, e, _⟩ => by rw [e]; rfl
theorem len_law_changed (n : Nat) : ∀ ds M Q E, spChg n ds M Q E → ds.length = 5 := fun ds M Q E ⟨_, _, _, _, _, _, _, _, _, _, e, _⟩ => by rw [e]; rfl
theorem len_law_value : ∀ ds M Q E, sp_law_value G ds M Q E → ds.length = 5 := fun ds M Q E ⟨_, _, _, _, _, _, _, e, _⟩ => by rw [e]; rfl
theorem rd_is_view (T : Txt G mg) : Rd3 N_is_view (t_is_view G) (sp_is_view G) := by
  rintro ds M Q E ⟨d, cs, own, other, e, rfl, hv, hcs, he, qe, q⟩
  refine ⟨e, rfl, he, fun h => ?_, fun h => ⟨M, Sub.refl _, qe h⟩⟩
  cases e with
  | int i =>
    have h' : (decide (0 ≤ i) && decide (i ≤ 4)) = true := h
    simp at h'
    obtain ⟨r, rfl⟩ := Int.eq_ofNat_of_zero_le h'.1
    exact ⟨d, cs, own, other, 0, r, rfl, hv, by omega, hcs, M, Sub.refl _, q r rfl (by omega)⟩
  | _ => exact nomatch h
theorem rd_is_branch (T : Txt G mg) {n : Nat} {sf : Sp3} (hf : n = 0 ∨ ∃ j, n = j + 1 ∧ sf = spBrD j) : Rd3 N_is_branch (t_is_branch G sf) (spBrD n) := by
  rintro ds M Q E ⟨d, cs, own, other, back, r, rfl, hv, hr, hcs, q⟩
  have no : brD r cs own other back d = false → ∃ M'', Sub M'' M ∧ Q (.bl false) M'' := fun h => ⟨M, Sub.refl _, by rw [h] at q; exact q⟩
  conv => whnf
  refine isi_tuple (vk_ty hv) (fun zs e => ?_) (fun nt => ?_)
  · subst e
    cases r with
    | zero =>
      refine Br.ff ?_
      conv => whnf
      refine eq_int ⟨fun _ => ?_, fun e => absurd rfl (of_decide_eq_false e)⟩
      conv => whnf
      refine ne_int ⟨fun e => no ?_, fun e => ?_⟩
      · match zs, e with
        | [], _ => rfl
        | [x], e => simp at e
        | x :: y :: zs, _ => rfl
      · match zs, e, hv, no, q with
        | [], e, _, _, _ => simp at e
        | x :: y :: zs, e, _, _, _ => simp at e; omega
        | [x], _, hv, no, q =>
          have hx : Vk M x := vks_get (ds := [x]) (i := 0) (by simpa only [Vk] using hv) rfl
          refine ⟨x, rfl, isi_int (vk_ty hx) (fun i e => ?_) (fun b e => ?_) fun h1 h2 => ?_⟩
          · subst e
            refine Br.ff ⟨_, rfl, isi_bool (vk_ty hx) (fun b z => nomatch z) fun _ => Br.ff ?_⟩
            refine ⟨_, rfl, ?_⟩
            conv => whnf
            refine ⟨fun e1 => ⟨fun e2 => ?_, fun e2 => ?_⟩, fun e1 => ⟨fun _ => ?_, fun e2 => by cases e2⟩⟩
            · refine no ?_
              show (decide (0 ≤ i) && decide (i < own)) = false
              rw [e1, Bool.true_and]
              simpa using e2
            · refine eq_int ⟨fun _ => ⟨M, Sub.refl _, ?_⟩, fun e => absurd rfl (of_decide_eq_false e)⟩
              have : brD 0 cs own other back (.tup [.int i]) = true := by
                show (decide (0 ≤ i) && decide (i < own)) = true
                rw [e1, Bool.true_and]
                simpa using e2
              rw [this] at q
              exact q
            · refine no ?_
              show (decide (0 ≤ i) && decide (i < own)) = false
              rw [e1, Bool.false_and]
          · subst e
            exact Br.ff ⟨_, rfl, isi_bool (vk_ty hx) (fun b z => Br.tt (Br.tt (no rfl))) fun h => absurd rfl (h _)⟩
          · refine Br.tt (Br.tt (no ?_))
            cases x <;> first | rfl | exact absurd rfl (h1 _)
    | succ r =>
      refine Br.ff ?_
      conv => whnf
      refine eq_int ⟨fun e => absurd (of_decide_eq_true e) (by omega), fun _ => ?_⟩
      conv => whnf
      refine ne_int ⟨fun e => no ?_, fun e => ?_⟩
      · match zs, e with
        | [], _ => rfl
        | [x], _ => rfl
        | [x, y], e => simp at e
        | x :: y :: z :: zs, _ => cases y <;> rfl
      · match zs, e, hv, no, q with
        | [], e, _, _, _ => simp at e
        | [x], e, _, _, _ => simp at e
        | x :: y :: z :: zs, e, _, _, _ => simp at e; omega
        | [x, y], _, hv, no, q =>
          have hx : Vk M x := vks_get (ds := [x, y]) (i := 0) (by simpa only [Vk] using hv) rfl
          have hy : Vk M y := vks_get (ds := [x, y]) (i := 1) (by simpa only [Vk] using hv) rfl
          have nx : numOk x own = false → brD (r + 1) cs own other back (.tup [x, y]) = false := fun h => by
            cases y <;> first | rfl | exact (by show (numOk x own && _) = false; rw [h, Bool.false_and])
          refine ⟨x, rfl, isi_int (vk_ty hx) (fun i e => ?_) (fun b e => ?_) fun h1 h2 => ?_⟩
          · subst e
            refine Br.ff ⟨_, rfl, isi_bool (vk_ty hx) (fun b z => nomatch z) fun _ => Br.ff ?_⟩
            refine ⟨_, rfl, ?_⟩
            conv => whnf
            refine ⟨fun e1 => ⟨fun e2 => ?_, fun e2 => ?_⟩, fun e1 => ⟨fun _ => ?_, fun e2 => by cases e2⟩⟩
            · refine no (nx ?_)
              show (decide (0 ≤ i) && decide (i < own)) = false
              rw [e1, Bool.true_and]
              simpa using e2
            · have ok : numOk (.int i) own = true := by
                show (decide (0 ≤ i) && decide (i < own)) = true
                rw [e1, Bool.true_and]
                simpa using e2
              refine eq_int ⟨fun e => absurd (of_decide_eq_true e) (by omega), fun _ => ?_⟩
              refine ⟨y, rfl, isi_tuple (vk_ty hy) (fun ys e => ?_) fun nt => ?_⟩
              · subst e
                refine Br.ff ⟨_, rfl, ?_⟩
                conv => whnf
                refine ne_int ⟨fun e => no ?_, fun e => ?_⟩
                · show (numOk (.int i) own && (decide ((ys.length : Int) = cs) && _)) = false
                  rw [decide_eq_false (by simpa using e), Bool.false_and, Bool.and_false]
                have hys : Vks M ys := by simpa only [Vk] using hy
                have hlen : (ys.length : Int) = cs := by simpa using e
                obtain ⟨j, rfl, rfl⟩ : ∃ j, n = j + 1 ∧ sf = spBrD j := by
                  rcases hf with h | h
                  · omega
                  · exact h
                refine ⟨_, rfl, fun k env' M' => ∃ s6 s7, env' = [some (.tup [.int i, .tup ys]), some (.int cs), some (.int own), some (.int other), some (.int ((r + 1 : Nat) : Int)), some (.int back), s6, s7] ∧ M' = M ∧ ∀ m x, m < k → ys[m]? = some x → (if (m : Int) + 1 = back then isNon x else brD r cs other own ((m : Int) + 1) x) = true, ⟨none, none, rfl, rfl, fun m x h => absurd h (Nat.not_lt_zero m)⟩, ?_, ?_⟩
                · rintro k d env' M' hd ⟨s6, s7, rfl, rfl, hm⟩
                  obtain ⟨x, hx, rfl⟩ := enumD_get hd
                  rw [Nat.zero_add]
                  have hvx : Vk M' x := vks_get hys hx
                  have bad : (if (k : Int) + 1 = back then isNon x else brD r cs other own ((k : Int) + 1) x) = false → ∃ M'', Sub M'' M' ∧ Q (.bl false) M'' := fun h => no (by
                    show (numOk (.int i) own && (decide ((ys.length : Int) = cs) && allAt _ 0 ys)) = false
                    rw [allAt_false (k := 0) hx (by rw [Nat.zero_add]; exact h), Bool.and_false, Bool.and_false])
                  have good : (if (k : Int) + 1 = back then isNon x else brD r cs other own ((k : Int) + 1) x) = true → ∀ m y, m < k + 1 → ys[m]? = some y → (if (m : Int) + 1 = back then isNon y else brD r cs other own ((m : Int) + 1) y) = true := fun h m y hlt hy => by
                    by_cases e : m = k
                    · subst e
                      rw [hx] at hy
                      cases hy
                      exact h
                    · exact hm m y (by omega) hy
                  refine ⟨trivial, rfl, rfl, ?_⟩
                  conv => whnf
                  refine eq_int ⟨fun e => ?_, fun e => ?_⟩
                  · have eb : (k : Int) + 1 = back := by have := of_decide_eq_true e; omega
                    rw [if_pos eb] at bad good
                    show Br (!isNonD x) _ _
                    cases hb : isNonD x with
                    | true => exact Br.ff ⟨_, _, rfl, rfl, good hb⟩
                    | false => exact Br.tt (bad hb)
                  · have eb : ¬ (k : Int) + 1 = back := by have := of_decide_eq_false e; omega
                    rw [if_neg eb] at bad good
                    refine ⟨x, cs, other, own, (k : Int) + 1, r, ?_, hvx, by omega, hcs, ?_⟩
                    · rw [show ((r + 1 : Nat) : Int) - 1 = (r : Int) by omega]
                    · cases hb : brD r cs other own ((k : Int) + 1) x with
                      | true => exact Br.ff ⟨_, _, rfl, rfl, good hb⟩
                      | false => exact Br.tt (bad hb)
                · rintro env' M' ⟨s6, s7, rfl, rfl, hm⟩
                  rw [enumD_length] at hm
                  refine ⟨trivial, M', Sub.refl _, ?_⟩
                  have : brD (r + 1) cs own other back (.tup [.int i, .tup ys]) = true := by
                    show (numOk (.int i) own && (decide ((ys.length : Int) = cs) && allAt _ 0 ys)) = true
                    rw [ok, Bool.true_and, decide_eq_true hlen, Bool.true_and]
                    exact allAt_true fun m x hx => by
                      rw [Nat.zero_add]
                      exact hm m x (List.getElem?_eq_some_iff.mp hx).1 hx
                  rw [this] at q
                  exact q
              · refine Br.tt (Br.tt (no ?_))
                cases y <;> first | rfl | exact absurd rfl (nt _)
            · refine no (nx ?_)
              show (decide (0 ≤ i) && decide (i < own)) = false
              rw [e1, Bool.false_and]
          · subst e
            exact Br.ff ⟨_, rfl, isi_bool (vk_ty hx) (fun b z => Br.tt (Br.tt (no (nx rfl)))) fun h => absurd rfl (h _)⟩
          · refine Br.tt (Br.tt (no (nx ?_)))
            cases x <;> first | rfl | exact absurd rfl (h1 _)
  · refine Br.tt (Br.tt (no ?_))
    cases r <;> cases d <;> first | rfl | exact absurd rfl (nt _)
theorem rd_law_right (T : Txt G mg) {n : Nat} {sf : Sp3} (hf : n = 0 ∨ ∃ j, n = j + 1 ∧ sf = spBrD j) : Rd3 N_law_right (t_law_right G sf) (spBrD n) := by
  rintro ds M Q E ⟨d, cs, own, other, back, r, rfl, hv, hr, hcs, q⟩
  have no : brD r cs own other back d = false → ∃ M'', Sub M'' M ∧ Q (.bl false) M'' := fun h => ⟨M, Sub.refl _, by rw [h] at q; exact q⟩
  conv => whnf
  refine isi_tuple (vk_ty hv) (fun zs e => ?_) (fun nt => ?_)
  · subst e
    cases r with
    | zero =>
      refine Br.ff ?_
      conv => whnf
      refine ne_int ⟨fun e => no ?_, fun e => ?_⟩
      · match zs, e with
        | [], _ => rfl
        | [x], e => simp at e
        | x :: y :: zs, _ => rfl
      · match zs, e, hv, no, q with
        | [], e, _, _, _ => simp at e
        | x :: y :: zs, e, _, _, _ => simp at e; omega
        | [x], _, hv, no, q =>
          have hx : Vk M x := vks_get (ds := [x]) (i := 0) (by simpa only [Vk] using hv) rfl
          refine ⟨x, rfl, x, rfl, vk_ty hx, ?_⟩
          cases x with
          | int i =>
            refine Br.ff ⟨_, rfl, ?_⟩
            conv => whnf
            refine ⟨fun e1 => ?_, fun e1 => ⟨_, rfl, ?_⟩⟩
            · refine Br.tt (no ?_)
              show (decide (0 ≤ i) && decide (i < own)) = false
              rw [decide_eq_false (by have := of_decide_eq_true e1; omega), Bool.false_and]
            · conv => whnf
              refine ⟨fun e2 => no ?_, fun e2 => ?_⟩
              · show (decide (0 ≤ i) && decide (i < own)) = false
                rw [decide_eq_false (p := i < own) (by have := of_decide_eq_true e2; omega), Bool.and_false]
              · refine eq_int ⟨fun _ => ⟨M, Sub.refl _, ?_⟩, fun e => absurd rfl (of_decide_eq_false e)⟩
                have : brD 0 cs own other back (.tup [.int i]) = true := by
                  show (decide (0 ≤ i) && decide (i < own)) = true
                  rw [decide_eq_true (by have := of_decide_eq_false e1; omega), decide_eq_true (by have := of_decide_eq_false e2; omega)]
                  rfl
                rw [this] at q
                exact q
          | _ => exact Br.tt (Br.tt (no rfl))
    | succ r =>
      refine Br.ff ?_
      conv => whnf
      rw [show decide (0 < ((r + 1 : Nat) : Int)) = true from decide_eq_true (by omega)]
      refine ne_int ⟨fun e => no ?_, fun e => ?_⟩
      · match zs, e with
        | [], _ => rfl
        | [x], _ => rfl
        | [x, y], e => simp at e
        | x :: y :: z :: zs, _ => cases y <;> rfl
      · match zs, e, hv, no, q with
        | [], e, _, _, _ => simp at e
        | [x], e, _, _, _ => simp at e
        | x :: y :: z :: zs, e, _, _, _ => simp at e; omega
        | [x, y], _, hv, no, q =>
          have hx : Vk M x := vks_get (ds := [x, y]) (i := 0) (by simpa only [Vk] using hv) rfl
          have hy : Vk M y := vks_get (ds := [x, y]) (i := 1) (by simpa only [Vk] using hv) rfl
          have nx : numOk x own = false → brD (r + 1) cs own other back (.tup [x, y]) = false := fun h => by
            cases y <;> first | rfl | exact (by show (numOk x own && _) = false; rw [h, Bool.false_and])
          refine ⟨x, rfl, x, rfl, vk_ty hx, ?_⟩
          cases x with
          | int i =>
            refine Br.ff ⟨_, rfl, ?_⟩
            conv => whnf
            refine ⟨fun e1 => ?_, fun e1 => ⟨_, rfl, ?_⟩⟩
            · refine Br.tt (no (nx ?_))
              show (decide (0 ≤ i) && decide (i < own)) = false
              rw [decide_eq_false (by have := of_decide_eq_true e1; omega), Bool.false_and]
            · conv => whnf
              refine ⟨fun e2 => no (nx ?_), fun e2 => ?_⟩
              · show (decide (0 ≤ i) && decide (i < own)) = false
                rw [decide_eq_false (p := i < own) (by have := of_decide_eq_true e2; omega), Bool.and_false]
              · have ok : numOk (.int i) own = true := by
                  show (decide (0 ≤ i) && decide (i < own)) = true
                  rw [decide_eq_true (by have := of_decide_eq_false e1; omega), decide_eq_true (by have := of_decide_eq_false e2; omega)]
                  rfl
                refine eq_int ⟨fun e => absurd (of_decide_eq_true e) (by omega), fun _ => ?_⟩
                refine ⟨y, rfl, isi_tuple (vk_ty hy) (fun ys e => ?_) fun nt => ?_⟩
                · subst e
                  refine Br.ff ⟨_, rfl, ?_⟩
                  conv => whnf
                  refine ne_int ⟨fun e => no ?_, fun e => ?_⟩
                  · show (numOk (.int i) own && (decide ((ys.length : Int) = cs) && _)) = false
                    rw [decide_eq_false (by simpa using e), Bool.false_and, Bool.and_false]
                  have hys : Vks M ys := by simpa only [Vk] using hy
                  have hlen : (ys.length : Int) = cs := by simpa using e
                  obtain ⟨j, rfl, rfl⟩ : ∃ j, n = j + 1 ∧ sf = spBrD j := by
                    rcases hf with h | h
                    · omega
                    · exact h
                  refine ⟨⟨by decide, by decide, by omega, by omega⟩, fun k env' M' => ∃ s6 s7, env' = [some (.tup [.int i, .tup ys]), some (.int cs), some (.int own), some (.int other), some (.int ((r + 1 : Nat) : Int)), some (.int back), s6, s7] ∧ M' = M ∧ ∀ m x, m < k → ys[m]? = some x → (if (m : Int) + 1 = back then isNon x else brD r cs other own ((m : Int) + 1) x) = true, ⟨none, none, rfl, rfl, fun m x h => absurd h (Nat.not_lt_zero m)⟩, ?_, ?_⟩
                  · rintro k d env' M' hd ⟨s6, s7, rfl, rfl, hm⟩
                    obtain ⟨hk, rfl⟩ := rngD_get hd
                    have hk' : k < ys.length := by omega
                    have hx : ys[k]? = some ys[k] := List.getElem?_eq_getElem hk'
                    generalize ys[k] = x at hx
                    have e1k : (1 : Int) + (k : Int) - 1 = (k : Int) := by omega
                    have hvx : Vk M' x := vks_get hys hx
                    have bad : (if (k : Int) + 1 = back then isNon x else brD r cs other own ((k : Int) + 1) x) = false → ∃ M'', Sub M'' M' ∧ Q (.bl false) M'' := fun h => no (by
                      show (numOk (.int i) own && (decide ((ys.length : Int) = cs) && allAt _ 0 ys)) = false
                      rw [allAt_false (k := 0) hx (by rw [Nat.zero_add]; exact h), Bool.and_false, Bool.and_false])
                    have good : (if (k : Int) + 1 = back then isNon x else brD r cs other own ((k : Int) + 1) x) = true → ∀ m y, m < k + 1 → ys[m]? = some y → (if (m : Int) + 1 = back then isNon y else brD r cs other own ((m : Int) + 1) y) = true := fun h m y hlt hy => by
                      by_cases e : m = k
                      · subst e
                        rw [hx] at hy
                        cases hy
                        exact h
                      · exact hm m y (by omega) hy
                    refine ⟨trivial, _, rfl, x, (by rw [e1k]; exact atI_nat hx), ?_⟩
                    conv => whnf
                    refine eq_int ⟨fun e => ?_, fun e => ?_⟩
                    · have eb : (k : Int) + 1 = back := by have := of_decide_eq_true e; omega
                      rw [if_pos eb] at bad good
                      show Br (!isNonD x) _ _
                      cases hb : isNonD x with
                      | true => exact Br.ff ⟨_, _, rfl, rfl, good hb⟩
                      | false => exact Br.tt (bad hb)
                    · have eb : ¬ (k : Int) + 1 = back := by have := of_decide_eq_false e; omega
                      rw [if_neg eb] at bad good
                      refine ⟨x, cs, other, own, (k : Int) + 1, r, ?_, hvx, by omega, hcs, ?_⟩
                      · rw [show ((r + 1 : Nat) : Int) - 1 = (r : Int) by omega, show (1 : Int) + (k : Int) = (k : Int) + 1 by omega]
                      · cases hb : brD r cs other own ((k : Int) + 1) x with
                        | true => exact Br.ff ⟨_, _, rfl, rfl, good hb⟩
                        | false => exact Br.tt (bad hb)
                  · rintro env' M' ⟨s6, s7, rfl, rfl, hm⟩
                    rw [rngD_length] at hm
                    refine ⟨trivial, M', Sub.refl _, ?_⟩
                    have : brD (r + 1) cs own other back (.tup [.int i, .tup ys]) = true := by
                      show (numOk (.int i) own && (decide ((ys.length : Int) = cs) && allAt _ 0 ys)) = true
                      rw [ok, Bool.true_and, decide_eq_true hlen, Bool.true_and]
                      exact allAt_true fun m x hx => by
                        rw [Nat.zero_add]
                        exact hm m x (by have := (List.getElem?_eq_some_iff.mp hx).1; omega) hx
                    rw [this] at q
                    exact q
                · refine Br.tt (Br.tt (no ?_))
                  cases y <;> first | rfl | exact absurd rfl (nt _)
          | _ => exact Br.tt (Br.tt (no (nx rfl)))
  · refine Br.tt (Br.tt (no ?_))
    cases r <;> cases d <;> first | rfl | exact absurd rfl (nt _)
theorem rd_law_integer (T : Txt G mg) : Rd3 N_law_integer (t_law_integer G) (sp_law_integer G) := rdWhole
theorem rd_law_refused (T : Txt G mg) : Rd3 N_law_refused (t_law_refused G) (sp_law_refused G) := by
  rintro ds M Q E ⟨d, cs, own, other, e, rfl, hv, hcs, he, hn, q⟩
  refine ⟨d, cs, own, other, e, rfl, hv, hcs, he, fun _ => ⟨true, T.e_BadReach_BadReach, fun _ => ⟨M, Sub.refl _, q⟩, fun z => nomatch z⟩, fun r e hr => ?_⟩
  subst e
  have : isNum (.int (r : Int)) 0 4 = true := by
    show (decide ((0 : Int) ≤ (r : Int)) && decide ((r : Int) ≤ 4)) = true
    rw [decide_eq_true (by omega), decide_eq_true (by omega)]
    rfl
  rw [this] at hn
  cases hn
theorem len_law_drawn (n : Nat) : ∀ ds M Q E, spDrw n ds M Q E → ds.length = 6 := fun ds M Q E ⟨_, _, _, _, _, _, _, _, e, _⟩ => by rw [e]; rfl
theorem num_ok {v : Int} {own : Nat} (h0 : 0 ≤ v) (h1 : v < own) : numOk (.int v) own = true := by
  show (decide (0 ≤ v) && decide (v < own)) = true
  rw [decide_eq_true h0, decide_eq_true h1]
  rfl
theorem rd_law_drawn (T : Txt G mg) {n : Nat} {sf : Sp3} (hf : n = 0 ∨ ∃ j, n = j + 1 ∧ sf = spDrw j) : Rd3 N_law_drawn (t_law_drawn G sf) (spDrw n) := by
  rintro ds M Q E ⟨h, d, k, cs, own, other, back, r, rfl, z, hr, hcs, o0, t0, o4, t4, q⟩
  conv => whnf
  refine eq_int ⟨fun e => ?_, fun e => ?_⟩
  · have r0 : r = 0 := by have := of_decide_eq_true e; omega
    subst r0
    exact ⟨h, d, k, own, rfl, z, by omega, fun v v0 v1 => ⟨szLe (by show 1 ≤ 1000000; decide), _, Sub.refl _, q _ (k + 1) (num_ok v0 v1) (by have := z.n0; omega)⟩⟩
  have rp : r ≠ 0 := fun z => by subst z; exact of_decide_eq_false e rfl
  obtain ⟨r, rfl⟩ := Nat.exists_eq_succ_of_ne_zero rp
  obtain ⟨j, rfl, rfl⟩ : ∃ j, n = j + 1 ∧ sf = spDrw j := by
    rcases hf with h | h
    · omega
    · exact h
  refine ⟨szLe (by simp), fun p np => ⟨⟨by decide, by decide, by omega, by omega⟩, ?_⟩⟩
  rw [show ((cs : Int) + 1 - 1).toNat = cs by omega]
  have ph : p ≠ h := fun e => by subst e; rw [z.own] at np; cases np
  refine ⟨fun i env' M' => ∃ s7 acc k', env' = [some (.ref h), some (.int (cs : Int)), some (.int (own : Int)), some (.int (other : Int)), some (.int ((r + 1 : Nat) : Int)), some (.int back), some (.ref p), s7] ∧ acc.length = i ∧ (∀ (m : Nat) (x : D), acc[m]? = some x → (if (m : Int) + 1 = back then isNon x else brD r cs other own ((m : Int) + 1) x) = true) ∧ 0 ≤ k' ∧ Sub (setH M h d k') M' ∧ M' p = some (.lst acc), ⟨none, [], k, rfl, rfl, fun m x e => by simp at e, z.n0, by rw [z.self]; exact (Sub.refl M).new np, updM_same⟩, ?_, ?_⟩
  · rintro i x env' M' hd ⟨s7, acc, k', rfl, hl, ok, k0, sub, hp⟩
    obtain ⟨hi, rfl⟩ := rngD_get hd
    have e1 : (1 : Int) + (i : Int) = (i : Int) + 1 := Int.add_comm 1 _
    rw [e1]
    have hz : acc.length < sizeLine := szLt (by omega)
    have mp : M p = none := np
    have snoc : ∀ y, (if (i : Int) + 1 = back then isNon y else brD r cs other own ((i : Int) + 1) y) = true → ∀ (m : Nat) (x : D), (acc ++ [y])[m]? = some x → (if (m : Int) + 1 = back then isNon x else brD r cs other own ((m : Int) + 1) x) = true := fun y hy m x hm => by
      by_cases hlt : m < acc.length
      · rw [List.getElem?_append_left hlt] at hm
        exact ok m x hm
      · rw [List.getElem?_append_right (by omega)] at hm
        have : m = acc.length := by
          have := (List.getElem?_eq_some_iff.mp hm).1
          simp at this
          omega
        subst this
        simp at hm
        subst hm
        rw [hl]
        exact hy
    refine ⟨trivial, eq_int ⟨fun e => ?_, fun e => ?_⟩⟩
    · refine ⟨⟨_, .inl hp⟩, _, hp, hz, _, _, k', rfl, by rw [List.length_append, hl]; rfl, snoc _ ?_, k0, Sub.new sub (by rw [setH_ne ph]; exact mp), updM_same⟩
      rw [if_pos (of_decide_eq_true e)]
      rfl
    · refine ⟨⟨_, .inl hp⟩, h, d, k', cs, other, own, (i : Int) + 1, r, ?_, z.at_ sub k0, by omega, hcs, t0, o0, t4, o4, fun v k2 hv hk2 => ?_⟩
      · rw [show ((r + 1 : Nat) : Int) - 1 = (r : Int) by omega]
      · refine ⟨acc, (setH_ne ph).trans hp, hz, _, _, k2, rfl, by rw [List.length_append, hl]; rfl, snoc _ ?_, hk2, Sub.new (subH sub) (by rw [setH_ne ph]; exact mp), updM_same⟩
        rw [if_neg (of_decide_eq_false e)]
        exact hv
  · rintro env' M' ⟨s7, acc, k', rfl, hl, ok, k0, sub, hp⟩
    rw [rngD_length] at hl
    refine ⟨trivial, h, d, k', own, rfl, z.at_ sub k0, by omega, fun v v0 v1 => ?_⟩
    refine ⟨acc, .inl ((setH_ne ph).trans hp), szLe (by show 2 ≤ 1000000; decide), _, subH sub, q _ (k' + 1) ?_ (by omega)⟩
    show (numOk (.int v) own && (decide ((acc.length : Int) = cs) && allAt _ 0 acc)) = true
    rw [num_ok v0 v1, Bool.true_and, decide_eq_true (by omega), Bool.true_and]
    exact allAt_true fun m x hx => by
      rw [Nat.zero_add]
      exact ok m x hx
theorem rd_law_here (T : Txt G mg) : Rd3 N_law_here (t_law_here G) (sp_law_here G) := by
  rintro ds M Q E ⟨h, d, k, v, cs, own, other, back, r, rfl, z, hr, hc1, hc4, o0, t0, o4, t4, hv, q⟩
  obtain ⟨v0, tl, rfl, v00, v01, htl⟩ := view_parts hv
  have fin : ∀ x M' k', Sub (setH M h d k') M' → 0 ≤ k' → (∃ p, Shn (2 * r + 3) (vW r) (rest M' h) x p) → ∃ M'', Sub M'' M' ∧ Q x M'' := fun x M' k' s h0 ⟨p, sh⟩ => ⟨M', Sub.refl _, q x p M' k' s h0 sh⟩
  have k0 := z.n0
  have hz1 : HandD (setH M h d (k + 1)) h d (k + 1) := z.set (by omega)
  have sb := vW_big r
  have sp := sW_pos r
  have tlen : tl.length ≤ r ∧ tl.length ≤ 1 := by
    rcases htl with ⟨rfl, rfl⟩ | ⟨j, ds, rfl, rfl, _⟩ <;> simp
  have vs0 : v0.natAbs < 16 := by omega
  have at0 : atI (D.int v0 :: tl) 0 = some (.int v0) := by
    have : atI (D.int v0 :: tl) ((0 : Nat) : Int) = some (.int v0) := atI_nat (by simp)
    exact this
  have tls : ∀ M' y, y ∈ tl → ∃ p, Shn (2 * r + 2) (sW r) M' y p := fun M' y hy => by
    rcases htl with ⟨rfl, rfl⟩ | ⟨j, ds, rfl, rfl, hl, hd⟩
    · simp at hy
    · rw [List.mem_singleton] at hy
      subst hy
      refine shn_tup (k := 2 * j + 1) (w := sW j) (n := 4) (fun x hx => ?_) (by omega) (by show _ ≤ 8 * sW j + 13; omega) (by omega)
      obtain ⟨i, hi⟩ := List.getElem?_of_mem hx
      rcases hd i x hi with ⟨_, rfl⟩ | ⟨_, hb⟩
      · exact ⟨_, shn_non.mono (Sub.refl M') (by omega) (by omega)⟩
      · exact view_shn (by omega) j other own _ x (by omega) (by omega) hb
  have alls : ∀ M' y, y ∈ (D.int v0 :: tl) → ∃ p, Shn (2 * r + 2) (sW r) M' y p := fun M' y hy => by
    rcases List.mem_cons.mp hy with rfl | hy
    · exact ⟨_, (shn_small vs0).mono (Sub.refl M') (by omega) (by omega)⟩
    · exact tls M' y hy
  refine ⟨h, d, k, 12, rfl, z, by decide, fun s s0 s1 => ?_⟩
  conv => whnf
  rw [cut_from1]
  refine ⟨fun e => ?_, fun e => ?_⟩
  · refine ⟨szLe (by show 1 ≤ 1000000; decide), ⟨by decide, by decide, by decide⟩, szLe (by show 8 ≤ 1000000; decide), fun p np => ⟨h, d, k + 1, 8, rfl, hz1.sub ((Sub.refl _).new np), by decide, fun u u0 u1 => ?_⟩⟩
    have ph : p ≠ h := free_h (Sub.refl _) np
    obtain ⟨x, hx, hm⟩ := at_mem (ds := hereL (own : Int)) (v := u) (by omega) (by show u < 8; omega)
    refine ⟨hereL (own : Int), x, .inl ((setH_ne ph).trans updM_same), hx, szLe (by show 1 ≤ 1000000; decide), szLe (by show 1 + tl.length ≤ 1000000; omega), ?_⟩
    exact fin _ _ (k + 1 + 1) (subH ((Sub.refl _).new np)) (by omega) (here_head (here_shn hm (by omega) (by omega)) (tls _) tlen)
  · refine eq_int ⟨fun e => ?_, fun e => ?_⟩
    · refine ⟨_, at0, eq_int ⟨szLe (by show 1 ≤ 1000000; decide), szLe (by show 1 + tl.length ≤ 1000000; omega), ?_⟩⟩
      exact fin _ _ (k + 1) (Sub.refl _) (by omega) (here_head ⟨_, shn_bl.mono (Sub.refl _) (by decide) (by decide)⟩ (tls _) tlen)
    refine eq_int ⟨fun e => fun p np => ?_, fun e => ?_⟩
    · have ph : p ≠ h := free_h (Sub.refl _) np
      refine fin _ _ (k + 1) ((Sub.refl _).new np) (by omega) (shn_lst ((rest_at ph).trans updM_same) (alls _) (n := 2) (by show tl.length + 1 ≤ 2; omega) (by omega) (Nat.le_refl _))
    refine eq_int ⟨fun e => ?_, fun e => ?_⟩
    · refine ⟨szLe (by show 0 ≤ 1000000; decide), szLe (by show 1 ≤ 1000000; decide), szLe (by show 1 ≤ 1000000; decide), szLe (by show 1 ≤ 1000000; decide), szLe (by show 3 ≤ 1000000; decide), fun p np => ⟨h, d, k + 1, 3, rfl, hz1.sub ((Sub.refl _).new np), by decide, fun u u0 u1 => ?_⟩⟩
      have ph : p ≠ h := free_h (Sub.refl _) np
      obtain ⟨x, hx, hm⟩ := at_mem (ds := [.tup [.tup []], .tup [.non], .tup [.int 0]]) (v := u) (by omega) (by show u < 3; omega)
      refine ⟨_, x, .inl ((setH_ne ph).trans updM_same), hx, ?_⟩
      have big : (3 : Nat) * (sW r + 1) + 1 ≤ vW r := by omega
      have go : ∀ y, (∃ p', Shn (2 * r + 2) (sW r) (rest (setH (updM (setH M h d (k + 1)) p (.lst [.tup [.tup []], .tup [.non], .tup [.int 0]])) h d (k + 1 + 1)) h) y p') → ∃ p', Shn (2 * r + 3) (vW r) (rest (setH (updM (setH M h d (k + 1)) p (.lst [.tup [.tup []], .tup [.non], .tup [.int 0]])) h d (k + 1 + 1)) h) (.tup (D.int v0 :: tl ++ [y])) p' := fun y hy =>
        shn_tup (k := 2 * r + 2) (w := sW r) (n := 3) (fun x hx => by
          rcases List.mem_append.mp hx with hx | hx
          · exact alls _ x hx
          · rw [List.mem_singleton] at hx
            subst hx
            exact hy) (by simp; omega) big (Nat.le_refl _)
      simp only [List.mem_cons, List.not_mem_nil, or_false] at hm
      rcases hm with rfl | rfl | rfl
      · refine ⟨szLe (by show tl.length + 1 + 1 ≤ 1000000; omega), fin _ _ (k + 1 + 1) (subH ((Sub.refl _).new np)) (by omega) (go _ ?_)⟩
        obtain ⟨p', hp'⟩ := shn_nil (M := rest (setH (updM (setH M h d (k + 1)) p (.lst [.tup [.tup []], .tup [.non], .tup [.int 0]])) h d (k + 1 + 1)) h)
        exact ⟨p', hp'.mono (Sub.refl _) (by omega) (by omega)⟩
      · exact ⟨szLe (by show tl.length + 1 + 1 ≤ 1000000; omega), fin _ _ (k + 1 + 1) (subH ((Sub.refl _).new np)) (by omega) (go _ ⟨_, shn_non.mono (Sub.refl _) (by omega) (by omega)⟩)⟩
      · exact ⟨szLe (by show tl.length + 1 + 1 ≤ 1000000; omega), fin _ _ (k + 1 + 1) (subH ((Sub.refl _).new np)) (by omega) (go _ ⟨_, (shn_small (i := 0) (by decide)).mono (Sub.refl _) (by omega) (by omega)⟩)⟩
    refine eq_int ⟨fun e => ?_, fun e => ?_⟩
    · refine ⟨szLe (by show 0 ≤ 1000000; decide), _, at0, _, at0, szLe (by show 1 ≤ 1000000; decide), fun p1 np1 => ⟨szLe (by show 5 ≤ 1000000; decide), fun p np => ?_⟩⟩
      have sub1 : Sub (setH M h d (k + 1)) (updM (setH M h d (k + 1)) p1 (.lst [.int v0])) := (Sub.refl _).new np1
      have ph1 : p1 ≠ h := free_h (Sub.refl _) np1
      have ph : p ≠ h := free_h sub1 np
      have pp : p1 ≠ p := fun e => by
        subst e
        rw [updM_same] at np
        cases np
      have np' : setH M h d (k + 1) p = none := sub1.free np
      have sub2 : Sub (setH M h d (k + 1)) (updM (updM (setH M h d (k + 1)) p1 (.lst [.int v0])) p (.lst [.tup (L3.cutD (.int v0 :: tl) none (some 1)), .tup [], .non, .int v0, .ref p1])) := sub1.new np'
      refine ⟨h, d, k + 1, 5, rfl, hz1.sub sub2, by decide, fun u u0 u1 => ?_⟩
      obtain ⟨x, hx, hm⟩ := at_mem (ds := [.tup (L3.cutD (.int v0 :: tl) none (some 1)), .tup [], .non, .int v0, .ref p1]) (v := u) (by omega) (by show u < 5; omega)
      refine ⟨_, x, .inl ((setH_ne ph).trans updM_same), hx, fin _ _ (k + 1 + 1) (subH sub2) (by omega) ?_⟩
      simp only [List.mem_cons, List.not_mem_nil, or_false] at hm
      rcases hm with rfl | rfl | rfl | rfl | rfl
      · exact shn_tup (k := 2 * r + 2) (w := sW r) (n := 2) (fun y hy => alls _ y (mem_cut hy)) (Nat.le_trans cut_len (by show tl.length + 1 ≤ 2; omega)) (by omega) (Nat.le_refl _)
      · exact shn_tup (k := 2 * r + 2) (w := sW r) (n := 0) (fun y hy => by simp at hy) (Nat.le_refl _) (by omega) (Nat.le_refl _)
      · exact ⟨_, shn_non.mono (Sub.refl _) (by omega) (by omega)⟩
      · exact ⟨_, (shn_small vs0).mono (Sub.refl _) (by omega) (by omega)⟩
      · exact shn_lst ((rest_at ph1).trans ((setH_ne ph1).trans ((updM_ne pp).trans updM_same))) (k := 2 * r + 2) (w := sW r) (n := 2) (fun y hy => by
          rw [List.mem_singleton] at hy
          subst hy
          exact alls _ _ List.mem_cons_self) (by show 1 ≤ 2; decide) (by omega) (Nat.le_refl _)
    refine eq_int ⟨fun e => ?_, fun e => ?_⟩
    · have tl0 : tl.length = 0 := by
        have e1 : ((List.drop 1 (D.int v0 :: tl)).length : Int) = 0 := of_decide_eq_true e
        simpa using e1
      have tl0' : tl = [] := List.length_eq_zero_iff.mp tl0
      refine ⟨_, at0, by decide, by decide, fun p np => lcMap (fun _ => .tup [.int 0]) np (fun _ _ => trivial) (fun i x M' R hx sub hR => ⟨szLe (by show 1 ≤ 1000000; decide), hR _ (Sub.refl _)⟩) (by decide) fun M' sub hp => ⟨_, .inl hp, szLe (by show 2 ≤ 1000000; decide), fin _ _ (k + 1) sub (by omega) ?_⟩⟩
      have fresh : ∃ p', Shn (2 * r + 2) 38 (rest M' h) (.tup ((rngD 0 3).map fun _ => D.tup [.int 0])) p' := shn_tup (k := 1) (w := 6) (n := 3) (fun y hy => by
        obtain ⟨_, _, rfl⟩ := List.mem_map.mp hy
        exact shn_zero) (Nat.le_refl _) (by decide) (by omega)
      refine shn_tup (k := 2 * r + 2) (w := 38) (n := 2) (fun y hy => ?_) (Nat.le_refl _) (by omega) (Nat.le_refl _)
      simp only [List.mem_cons, List.not_mem_nil, or_false] at hy
      rcases hy with rfl | rfl
      · exact ⟨_, (shn_small vs0).mono (Sub.refl _) (by omega) (by omega)⟩
      · exact fresh
    rcases htl with ⟨rfl, rfl⟩ | ⟨j, ds, rfl, rfl, hl, hd⟩
    · exact absurd rfl (of_decide_eq_false e)
    have dss : ∀ M' y, y ∈ ds → ∃ p, Shn (2 * j + 3) (sW j) M' y p := fun M' y hy => by
      obtain ⟨i, hi⟩ := List.getElem?_of_mem hy
      rcases hd i y hi with ⟨_, rfl⟩ | ⟨_, hb⟩
      · exact ⟨_, shn_non.mono (Sub.refl M') (by omega) (by omega)⟩
      · obtain ⟨p, hp⟩ := view_shn (M := M') (by omega) j other own _ y (by omega) (by omega) hb
        exact ⟨p, hp.mono (Sub.refl _) (by omega) (Nat.le_refl _)⟩
    have sbj := vW_big j
    have spj := sW_pos j
    have vj : vW (j + 1) = 8 * vW j + 13 := rfl
    have hl4 : ds.length ≤ 4 := by omega
    refine ⟨_, rfl, h, d, k + 1, ds.length, rfl, hz1, by omega, fun i i0 i1 => ?_⟩
    have sub2 : Sub (setH M h d (k + 1 + 1)) (setH (setH M h d (k + 1)) h d (k + 1 + 1)) := subH (Sub.refl _)
    have tp : ∀ {xs : List D} {M' : MH}, xs.length ≤ 9 → (∀ y, y ∈ xs → y ∈ ds ∨ y = .non) → ∃ p, Shn (2 * (j + 1) + 3) (vW (j + 1)) M' (.tup [.int v0, .tup xs]) p := fun {xs M'} h9 hx =>
      here_two vs0 (shn_tup (k := 2 * j + 3) (w := sW j) (n := 9) (fun y hy => by
        rcases hx y hy with hy | rfl
        · exact dss M' y hy
        · exact ⟨_, shn_non.mono (Sub.refl _) (by omega) (by omega)⟩) h9 (w' := 9 * (sW j + 1) + 1) (Nat.le_refl _) (by omega)) (by omega) (by omega)
    refine eq_int ⟨fun e => ?_, fun e => ?_⟩
    · refine ⟨_, rfl, fun p np => ⟨szLe (by show 2 ≤ 1000000; decide), fin _ _ (k + 1 + 1) (sub2.new (sub2.free np)) (by omega) ?_⟩⟩
      have ph : p ≠ h := free_h sub2 np
      exact here_two vs0 (shn_lst ((rest_at ph).trans updM_same) (k := 2 * j + 3) (w := sW j) (n := 4) (dss _) hl4 (w' := 4 * (sW j + 1) + 1) (Nat.le_refl _) (by omega)) (by omega) (by omega)
    refine eq_int ⟨fun e => ?_, fun e => ?_⟩
    · exact ⟨_, rfl, szLe (by show 2 ≤ 1000000; decide), fin _ _ (k + 1 + 1) sub2 (by omega) (tp (Nat.le_trans cut_len (by omega)) fun y hy => .inl (mem_cut hy))⟩
    obtain ⟨x, hx, hm⟩ := at_mem (ds := ds) (v := i) (by omega) i1
    refine eq_int ⟨fun e => ?_, fun e => ?_⟩
    · refine ⟨_, rfl, x, hx, szLe (by show 1 ≤ 1000000; decide), szLe (by show ds.length + 1 ≤ 1000000; omega), szLe (by show 2 ≤ 1000000; decide), fin _ _ (k + 1 + 1) sub2 (by omega) (tp (by simp; omega) fun y hy => ?_)⟩
      rcases List.mem_append.mp hy with hy | hy
      · exact .inl hy
      · rw [List.mem_singleton] at hy
        subst hy
        exact .inl hm
    have c1 : (L3.cutD ds none (some i)).length ≤ ds.length := cut_len
    have c2 : (L3.cutD ds (some (i + 1)) none).length ≤ ds.length := cut_len
    refine eq_int ⟨fun e => ?_, fun e => ?_⟩
    · refine ⟨_, rfl, szLe (by show 1 ≤ 1000000; decide), szLe (by show (L3.cutD ds none (some i)).length + 1 ≤ 1000000; omega), szLe (by rw [List.length_append, List.length_singleton]; omega), szLe (by show 2 ≤ 1000000; decide), fin _ _ (k + 1 + 1) sub2 (by omega) (tp (by rw [List.length_append, List.length_append, List.length_singleton]; omega) fun y hy => ?_)⟩
      rcases List.mem_append.mp hy with hy | hy
      · rcases List.mem_append.mp hy with hy | hy
        · exact .inl (mem_cut hy)
        · rw [List.mem_singleton] at hy
          exact .inr hy
      · exact .inl (mem_cut hy)
    · obtain ⟨x', hx', hm'⟩ := at_mem (ds := ds) (v := i - 1) (by omega) (by omega)
      refine ⟨_, rfl, x', hx', szLe (by show 1 ≤ 1000000; decide), szLe (by show (L3.cutD ds none (some i)).length + 1 ≤ 1000000; omega), szLe (by rw [List.length_append, List.length_singleton]; omega), szLe (by show 2 ≤ 1000000; decide), fin _ _ (k + 1 + 1) sub2 (by omega) (tp (by rw [List.length_append, List.length_append, List.length_singleton]; omega) fun y hy => ?_)⟩
      rcases List.mem_append.mp hy with hy | hy
      · rcases List.mem_append.mp hy with hy | hy
        · exact .inl (mem_cut hy)
        · rw [List.mem_singleton] at hy
          subst hy
          exact .inl hm'
      · exact .inl (mem_cut hy)
theorem rd_law_changed (T : Txt G mg) {n : Nat} {sf : Sp3} (hf : n = 0 ∨ ∃ j, n = j + 1 ∧ sf = spChg j) : Rd3 N_law_changed (t_law_changed G sf) (spChg n) := by
  rintro ds M Q E ⟨h, d, k, v, cs, own, other, back, r, m, rfl, z, hr, hc1, hc4, o0, t0, o4, t4, hmn, hv, q⟩
  obtain ⟨v0, tl, rfl, v00, v01, htl⟩ := view_parts hv
  have fin : ∀ x M' k', Sub (setH M h d k') M' → 0 ≤ k' → (∃ p, Shn (2 * r + 3) (vW r) (rest M' h) x p) → ∃ M'', Sub M'' M' ∧ Q x M'' := fun x M' k' s h0 ⟨p, sh⟩ => ⟨M', Sub.refl _, q x p M' k' s h0 sh⟩
  have k0 := z.n0
  have hz1 : HandD (setH M h d (k + 1)) h d (k + 1) := z.set (by omega)
  have vs0 : v0.natAbs < 16 := by omega
  have base : sp_law_here G [.ref h, .tup (.int v0 :: tl), .int (own : Int)] M (fun x M' => ∃ M'', Sub M'' M' ∧ Q x M'') (fun _ _ _ => False) :=
    ⟨h, d, k, _, cs, own, other, back, r, rfl, z, hr, hc1, hc4, o0, t0, o4, t4, hv, fun x p M' k' s h0 sh => fin x M' k' s h0 ⟨p, sh⟩⟩
  conv => whnf
  refine eq_int ⟨fun e => Br.tt base, fun e => ?_⟩
  rcases htl with ⟨rfl, rfl⟩ | ⟨j, ds, rfl, rfl, hl, hd⟩
  · exact Br.tt base
  refine Br.ff ?_
  obtain ⟨m, rfl⟩ : ∃ i, m = i + 1 := Nat.exists_eq_succ_of_ne_zero (by have := of_decide_eq_false e; omega)
  obtain ⟨n, rfl, rfl⟩ : ∃ j, n = j + 1 ∧ sf = spChg j := by
    rcases hf with h | h
    · omega
    · exact h
  have sbj := vW_big j
  have spj := sW_pos j
  have vj : vW (j + 1) = 8 * vW j + 13 := rfl
  refine ⟨_, rfl, h, d, k, ds.length, rfl, z, by omega, fun i i0 i1 => ?_⟩
  obtain ⟨i, rfl⟩ := Int.eq_ofNat_of_zero_le i0
  have hi : i < ds.length := by omega
  have hx : ds[i]? = some ds[i] := List.getElem?_eq_getElem hi
  generalize ds[i] = x at hx
  refine ⟨_, rfl, x, atI_nat hx, ?_⟩
  have c1 : (L3.cutD ds none (some (i : Int))).length ≤ ds.length := cut_len
  have c2 : (L3.cutD ds (some ((i : Int) + 1)) none).length ≤ ds.length := cut_len
  have dss : ∀ M' y, y ∈ ds → ∃ p, Shn (2 * j + 3) (vW j) M' y p := fun M' y hy => by
    obtain ⟨i, hi⟩ := List.getElem?_of_mem hy
    rcases hd i y hi with ⟨_, rfl⟩ | ⟨_, hb⟩
    · exact ⟨_, shn_non.mono (Sub.refl M') (by omega) (by omega)⟩
    · obtain ⟨p, hp⟩ := view_shn (M := M') (by omega) j other own _ y (by omega) (by omega) hb
      exact ⟨p, hp.mono (Sub.refl _) (by omega) (by omega)⟩
  have put : ∀ {y : D} {M' : MH}, (∃ p, Shn (2 * j + 3) (vW j) M' y p) → ∃ p, Shn (2 * (j + 1) + 3) (vW (j + 1)) M' (.tup [.int v0, .tup (L3.cutD ds none (some (i : Int)) ++ [y] ++ L3.cutD ds (some ((i : Int) + 1)) none)]) p := fun {y M'} hy => by
    rw [cut_put hi]
    exact here_two vs0 (shn_tup (k := 2 * j + 3) (w := vW j) (n := 4) (fun w hw => by
      rcases List.mem_or_eq_of_mem_set hw with hw | rfl
      · exact dss M' w hw
      · exact hy) (by rw [List.length_set]; omega) (w' := 4 * (vW j + 1) + 1) (Nat.le_refl _) (by omega)) (by omega) (by omega)
  show Br (isNonD x) _ _
  rcases hd i x hx with ⟨eb, rfl⟩ | ⟨eb, hb⟩
  · refine Br.tt ?_
    refine ⟨_, rfl, _, rfl, szLe (by show 1 ≤ 1000000; decide), szLe (by show 0 ≤ 1000000; decide), szLe (by show 4 ≤ 1000000; decide), fun p np => ⟨h, d, k + 1, 4, rfl, hz1.sub ((Sub.refl _).new np), by decide, fun u u0 u1 => ?_⟩⟩
    have ph : p ≠ h := free_h (Sub.refl _) np
    obtain ⟨y, hy, hm⟩ := at_mem (ds := [.tup [.int 0], .int 0, .tup [], .bl false]) (v := u) (by omega) (by show u < 4; omega)
    refine ⟨_, y, .inl ((setH_ne ph).trans updM_same), hy, szLe (by show 1 ≤ 1000000; decide), szLe (by show (L3.cutD ds none (some (i : Int))).length + 1 ≤ 1000000; omega), _, rfl, szLe (by rw [List.length_append, List.length_singleton]; omega), szLe (by show 2 ≤ 1000000; decide), fin _ _ (k + 1 + 1) (subH ((Sub.refl _).new np)) (by omega) (put ?_)⟩
    simp only [List.mem_cons, List.not_mem_nil, or_false] at hm
    rcases hm with rfl | rfl | rfl | rfl
    · exact (shn_zero).elim fun p hp => ⟨p, hp.mono (Sub.refl _) (by omega) (by omega)⟩
    · exact ⟨_, (shn_small (i := 0) (by decide)).mono (Sub.refl _) (by omega) (by omega)⟩
    · exact (shn_nil).elim fun p hp => ⟨p, hp.mono (Sub.refl _) (by omega) (by omega)⟩
    · exact ⟨_, shn_bl.mono (Sub.refl _) (by omega) (by omega)⟩
  · have nn : isNonD x = false := by
      cases x with
      | non => cases j <;> exact nomatch hb
      | _ => rfl
    rw [nn]
    refine Br.ff ?_
    refine ⟨h, d, k + 1, x, cs, other, own, (i : Int) + 1, j, m, ?_, hz1, by omega, hc1, hc4, t0, o0, t4, o4, by omega, hb, fun y p M' k' s h0 sh => ?_⟩
    · rw [show ((m + 1 : Nat) : Int) - 1 = (m : Int) by omega]
    rw [setH_setH] at s
    exact ⟨_, rfl, _, rfl, szLe (by show 1 ≤ 1000000; decide), szLe (by show (L3.cutD ds none (some (i : Int))).length + 1 ≤ 1000000; omega), _, rfl, szLe (by rw [List.length_append, List.length_singleton]; omega), szLe (by show 2 ≤ 1000000; decide), fin _ _ k' s h0 (put ⟨p, sh⟩)⟩
theorem rd_law_value (T : Txt G mg) : Rd3 N_law_value (t_law_value G) (sp_law_value G) := by
  rintro ds M Q E ⟨h, d, k, cs, own, other, r, rfl, z, hr, hc1, hc4, o0, t0, o4, t4, q⟩
  have k0 := z.n0
  have hz1 : HandD (setH M h d (k + 1)) h d (k + 1) := z.set (by omega)
  have fin : ∀ x M' k', Sub (setH M h d k') M' → 0 ≤ k' → ValQ M' h x → ∃ M'', Sub M'' M' ∧ Q x M'' := fun x M' k' s h0 sh => ⟨M', Sub.refl _, q x M' k' s h0 sh⟩
  have vwq : ∀ {a b : Nat} {back : Int} {r' : Nat} {x : D} {M' : MH}, r' ≤ 4 → a ≤ 4 → b ≤ 4 → brD r' cs a b back x = true → ValQ M' h x := fun {a b back r' x M'} h1 h2 h3 hb => by
    obtain ⟨p, hp⟩ := view_shn (M := rest M' h) (cs := (cs : Int)) (by omega) r' a b back x (by omega) (by omega) hb
    have e1 := vW_big r'
    have e2 := vW_mono h1
    exact .inl ⟨p, hp.mono (Sub.refl _) (by omega) (by omega)⟩
  refine ⟨h, d, k, 12, rfl, z, by decide, fun s s0 s1 => ?_⟩
  conv => whnf
  refine eq_int ⟨fun e => ?_, fun e => ?_⟩
  · refine ⟨h, d, k + 1, cs, other, own, 0, r, rfl, hz1, hr, hc4, t0, o0, t4, o4, fun v k' hb hk => ?_⟩
    rw [setH_setH]
    exact fin _ _ k' (Sub.refl _) hk (vwq hr t4 o4 hb)
  refine eq_int ⟨fun e => ?_, fun e => ?_⟩
  · refine ⟨h, d, k + 1, cs, rfl, hz1, by omega, fun u u0 u1 => ?_⟩
    refine ⟨h, d, k + 1 + 1, cs, own, other, _, r, rfl, hz1.set (by omega), hr, hc4, o0, t0, o4, t4, fun v k' hb hk => ?_⟩
    rw [setH_setH, setH_setH]
    exact fin _ _ k' (Sub.refl _) hk (vwq hr o4 t4 hb)
  refine eq_int ⟨fun e => ?_, fun e => ?_⟩
  · refine ⟨h, d, k + 1, cs, own, other, 0, r - 1, ?_, hz1, by omega, hc4, o0, t0, o4, t4, fun v k' hb hk => ?_⟩
    · have : (if (r : Int) - 1 > 0 then (r : Int) - 1 else 0) = ((r - 1 : Nat) : Int) := by split <;> omega
      rw [this]
    rw [setH_setH]
    exact fin _ _ k' (Sub.refl _) hk (vwq (by omega) o4 t4 hb)
  refine eq_int ⟨fun e => ⟨fun e2 => ?_, fun e2 => ?_⟩, fun e => ?_⟩
  · have r3 : (r : Int) < 3 := of_decide_eq_true e2
    refine ⟨h, d, k + 1, cs, own, other, 0, r + 1, ?_, hz1, by omega, hc4, o0, t0, o4, t4, fun v k' hb hk => ?_⟩
    · rw [show ((r + 1 : Nat) : Int) = (r : Int) + 1 by omega]
    rw [setH_setH]
    exact fin _ _ k' (Sub.refl _) hk (vwq (by omega) o4 t4 hb)
  · have s3 : s = 3 := of_decide_eq_true e
    subst s3
    refine eq_int ⟨fun e => absurd (of_decide_eq_true e) (by decide), fun _ => ?_⟩
    refine ⟨h, d, k + 1, cs, own, other, 0, r, rfl, hz1, hr, hc4, o0, t0, o4, t4, fun v k' hb hk => ?_⟩
    rw [setH_setH]
    exact Br.tt (fin _ _ k' (Sub.refl _) hk (vwq hr o4 t4 hb))
  refine Br.ff ?_
  refine eq_int ⟨fun e => ?_, fun e => ?_⟩
  · conv => whnf
    refine ⟨szLe (by show 0 ≤ 1000000; decide), fun p1 np1 => fun p2 np2 => fun p3 np3 => ?_⟩
    refine ⟨szLe (by show 1 ≤ 1000000; decide), updM_same, [(.inl 0, .tup [.int 0])], rfl, by decide, ?_⟩
    refine ⟨szLe (by show 0 ≤ 1000000; decide), szLe (by show 1 ≤ 1000000; decide), szLe (by show 1 ≤ 1000000; decide), fun p4 np4 => ?_⟩
    refine ⟨szLe (by show 0 ≤ 1000000; decide), szLe (by show 0 ≤ 1000000; decide), szLe (by show 2 ≤ 1000000; decide), szLe (by show 12 ≤ 1000000; decide), fun p5 np5 => ?_⟩
    rw [updM_updM] at np4 np5 ⊢
    have f1 : setH M h d (k + 1) p1 = none := np1
    generalize hM1 : updM (setH M h d (k + 1)) p1 (.lst []) = M1 at *
    have s1 : Sub (setH M h d (k + 1)) M1 := hM1 ▸ (Sub.refl _).new np1
    have a1 : M1 p1 = some (.lst []) := hM1 ▸ updM_same
    generalize hM2 : updM M1 p2 (.dK []) = M2 at *
    have s2 : Sub M1 M2 := hM2 ▸ (Sub.refl _).new np2
    have a2 : M2 p2 = some (.dK []) := hM2 ▸ updM_same
    generalize hM3 : updM M2 p3 (.dK (mergeD [] [(.inl 0, .tup [.int 0])])) = M3 at *
    have s3 : Sub M2 M3 := hM3 ▸ (Sub.refl _).new np3
    have a3 : M3 p3 = some (.dK [(.inl 0, .tup [.int 0])]) := hM3 ▸ updM_same
    generalize hM4 : updM M3 p4 (.lst [.int 0]) = M4 at *
    have s4 : Sub M3 M4 := hM4 ▸ (Sub.refl _).new np4
    have a4 : M4 p4 = some (.lst [.int 0]) := hM4 ▸ updM_same
    have h1 : p1 ≠ h := free_h (Sub.refl _) np1
    have h2 : p2 ≠ h := free_h s1 np2
    have h3 : p3 ≠ h := free_h (s1.trans s2) np3
    have h4 : p4 ≠ h := free_h ((s1.trans s2).trans s3) np4
    have h5 : p5 ≠ h := free_h (((s1.trans s2).trans s3).trans s4) np5
    have s5 : Sub M4 (updM M4 p5 (.lst [.non, .bl true, .int 0, .str "", .str "(0,)", .ref p1, .ref p2, .ref p3, .tup [.tup []], .ref p4, .tup [], .tup [.int 0, .tup []]])) := (Sub.refl _).new np5
    refine ⟨h, d, k + 1, 12, rfl, hz1.sub ((((s1.trans s2).trans s3).trans s4).trans s5), by decide, fun u u0 u1 => ?_⟩
    obtain ⟨x, hx, hm⟩ := at_mem (ds := [.non, .bl true, .int 0, .str "", .str "(0,)", .ref p1, .ref p2, .ref p3, .tup [.tup []], .ref p4, .tup [], .tup [.int 0, .tup []]]) (v := u) (by omega) (by show u < 12; omega)
    refine ⟨_, x, .inl ((setH_ne h5).trans updM_same), hx, fin _ _ (k + 1 + 1) (subH ((((s1.trans s2).trans s3).trans s4).trans s5)) (by omega) ?_⟩
    generalize updM M4 p5 (.lst [.non, .bl true, .int 0, .str "", .str "(0,)", .ref p1, .ref p2, .ref p3, .tup [.tup []], .ref p4, .tup [], .tup [.int 0, .tup []]]) = M5 at s5
    have up : ∀ {k' w' : Nat} {y : D}, k' ≤ 11 → w' ≤ 64 → (∃ p, Shn k' w' (rest (setH M5 h d (k + 1 + 1)) h) y p) → ValQ (setH M5 h d (k + 1 + 1)) h y := fun {k' w' y} hk hw ⟨p, sh⟩ => .inl ⟨p, sh.mono (Sub.refl _) hk (Nat.le_trans hw (by decide))⟩
    simp only [List.mem_cons, List.not_mem_nil, or_false] at hm
    rcases hm with rfl | rfl | rfl | rfl | rfl | rfl | rfl | rfl | rfl | rfl | rfl | rfl
    · exact up (by decide) (by decide) ⟨_, shn_non⟩
    · exact up (by decide) (by decide) ⟨_, shn_bl⟩
    · exact up (by decide) (by decide) ⟨_, shn_small (i := 0) (by decide)⟩
    · exact up (by decide) (by decide) ⟨_, shn_str (by decide) (by decide)⟩
    · exact up (by decide) (by decide) ⟨_, shn_str (by decide) (by decide)⟩
    · exact up (k' := 1) (w' := 1) (by decide) (by decide) (shn_lst ((rest_at h1).trans ((setH_ne h1).trans (s5 _ _ (s4 _ _ (s3 _ _ (s2 _ _ a1)))))) (k := 0) (w := 0) (n := 0) (fun x hx => by simp at hx) (Nat.le_refl _) (by decide) (by decide))
    · exact .inr ⟨p2, rfl, h2, .inl ((setH_ne h2).trans (s5 _ _ (s4 _ _ (s3 _ _ a2))))⟩
    · exact .inr ⟨p3, rfl, h3, .inr ((setH_ne h3).trans (s5 _ _ (s4 _ _ a3)))⟩
    · exact up (k' := 2) (w' := 3) (by decide) (by decide) (shn_tup (k := 1) (w := 1) (n := 1) (fun x hx => by
        rw [List.mem_singleton] at hx
        subst hx
        exact shn_nil) (Nat.le_refl _) (by decide) (by decide))
    · exact up (k' := 1) (w' := 6) (by decide) (by decide) (shn_lst ((rest_at h4).trans ((setH_ne h4).trans (s5 _ _ a4))) (k := 0) (w := 4) (n := 1) (fun x hx => by
        rw [List.mem_singleton] at hx
        subst hx
        exact ⟨_, shn_small (by decide)⟩) (Nat.le_refl _) (by decide) (by decide))
    · exact up (by decide) (by decide) shn_nil
    · exact up (k' := 2) (w' := 11) (by decide) (by decide) (shn_tup (k := 1) (w := 4) (n := 2) (fun x hx => by
        simp only [List.mem_cons, List.not_mem_nil, or_false] at hx
        rcases hx with rfl | rfl
        · exact ⟨_, (shn_small (by decide)).mono (Sub.refl _) (by decide) (by decide)⟩
        · exact shn_nil.elim fun p hp => ⟨p, hp.mono (Sub.refl _) (by decide) (by decide)⟩) (Nat.le_refl _) (by decide) (by decide))
  · refine ⟨h, d, k + 1, cs, own, other, 0, r, rfl, hz1, hr, hc4, o0, t0, o4, t4, fun v k' hb hk => ?_⟩
    rw [setH_setH]
    refine ⟨fun e => fin _ _ k' (Sub.refl _) hk (vwq hr o4 t4 hb), fun e => ?_⟩
    refine ⟨h, d, k', (r : Int) + 1, rfl, z.set hk, by omega, fun u u0 u1 => ?_⟩
    obtain ⟨m, rfl⟩ := Int.eq_ofNat_of_zero_le u0
    refine ⟨h, d, k' + 1, v, cs, own, other, 0, r, m, rfl, (z.set hk).set (by omega), hr, hc1, hc4, o0, t0, o4, t4, by omega, hb, fun x p M' k2 s h0 sh => ?_⟩
    rw [setH_setH, setH_setH] at s
    refine fin _ _ k2 s h0 (.inl ⟨p, sh.mono (Sub.refl _) (by omega) (vW_mono hr)⟩)
theorem val_show {M : MH} {h : Addr} {v : D} (q : ValQ M h v) : ∃ S : Str, ∀ M', Sub (rest M h) M' → Vk M' v ∧ ∀ Q : Q3, Q (.str S) M' → c3ReprX [v] M' Q := by
  rcases q with ⟨p, sh⟩ | ⟨a, rfl, ah, e⟩
  · exact ⟨p.shown, fun M' s => ⟨py_vk p v (py_mono s p v sh.py), fun Q q => shn_repr (sh.mono s (Nat.le_refl _) (Nat.le_refl _)) q (by decide) (vW_le (by decide))⟩⟩
  · rcases e with e | e
    · exact ⟨(dP [] []).shown, fun M' s => ⟨by simp only [Vk]; exact .inr ⟨_, s _ _ ((rest_at ah).trans e)⟩, fun Q q => .inr ⟨a, [], [], rfl, s _ _ ((rest_at ah).trans e), .nil, by decide, by decide, by decide, by decide, q⟩⟩⟩
    · exact ⟨(dP [(.inl 0, .tup [.int 0])] [.tuple [.int 0]]).shown, fun M' s => ⟨by simp only [Vk]; exact .inr ⟨_, s _ _ ((rest_at ah).trans e)⟩, fun Q q => .inr ⟨a, [(.inl 0, .tup [.int 0])], [.tuple [.int 0]], rfl, s _ _ ((rest_at ah).trans e), .cons (.tup (.cons (.int 0) .nil)) .nil, by decide, by decide, by decide, by decide, q⟩⟩⟩
theorem num_reach {r : Nat} (h : r ≤ 4) : isNum (.int (r : Int)) 0 4 = true := by
  show (decide ((0 : Int) ≤ (r : Int)) && decide ((r : Int) ≤ 4)) = true
  rw [decide_eq_true (by omega), decide_eq_true (by omega)]
  rfl
def wrongs : List D := [.int (-1), .int 5, .bl true, .bl false, .non, .str "1", .int (10 ^ 30), .tup [.int 2]]
theorem wrong_at {x : D} (hm : x ∈ wrongs) : Own x ∧ isNum x 0 4 = false := by
  unfold wrongs at hm
  simp only [List.mem_cons, List.not_mem_nil, or_false] at hm
  rcases hm with rfl | rfl | rfl | rfl | rfl | rfl | rfl | rfl <;> first | exact ⟨trivial, rfl⟩ | exact ⟨trivial, by decide⟩
theorem rd_law_all (T : Txt G mg) : Rd3 N_law_all (t_law_all G) (sp_law_all G) := by
  rintro ds M Q E ⟨a, ns, rfl, hl, ha, hM, q⟩
  refine ⟨a, 400, ns, rfl, by decide, by decide, by omega, ha, fun p xs np lx px => ⟨szLe (by show 2 ≤ 1000000; decide), fun h nh => ?_⟩⟩
  have hH := hand_new np (fun x hx => (px x hx).1) nh
  generalize updM (updM M p (.lst (xs.map D.int))) h (.lst [.ref p, .int 0]) = M2 at hH
  refine ⟨by decide, by decide, ?_⟩
  refine ⟨fun i env' M' => ∃ s2 s3' s4 s5 s6 s7 s8 s9 s10 s11 s12 s13, env' = [some (.ref a), some (.ref h), s2, s3', s4, s5, s6, s7, s8, s9, s10, s11, s12, s13] ∧ ∃ n2, HandD M' h p n2, ⟨none, none, none, none, none, none, none, none, none, none, none, none, rfl, 0, hH⟩, ?_, ?_⟩
  · rintro i x env' M' hd ⟨s2, s3', s4, s5, s6, s7, s8, s9, s10, s11, s12, s13, rfl, n2, h2⟩
    obtain ⟨hi, rfl⟩ := rngD_get hd
    have n20 := h2.n0
    refine ⟨trivial, h, p, n2, 3, rfl, h2, by decide, fun v v0 v1 => ?_⟩
    refine ⟨h, p, n2 + 1, 4, rfl, h2.set (by omega), by decide, fun u u0 u1 => ?_⟩
    refine ⟨h, p, n2 + 1 + 1, 4, rfl, (h2.set (by omega)).set (by omega), by decide, fun t t0 t1 => ?_⟩
    obtain ⟨c, hc⟩ : ∃ c : Nat, 2 + v = (c : Int) := ⟨(2 + v).toNat, by omega⟩
    obtain ⟨o, ho⟩ : ∃ o : Nat, 1 + u = (o : Int) := ⟨(1 + u).toNat, by omega⟩
    obtain ⟨w, hw⟩ : ∃ w : Nat, 1 + t = (w : Int) := ⟨(1 + t).toNat, by omega⟩
    conv => whnf
    rw [hc, ho, hw]
    rw [setH_setH, setH_setH]
    have h3 : HandD (setH M' h p (n2 + 1 + 1 + 1)) h p (n2 + 1 + 1 + 1) := h2.set (by omega)
    refine ⟨h, p, n2 + 1 + 1 + 1, _, rfl, h3, ?_, fun r r0 r1 => ?_⟩
    · show (0 : Int) < 5 - (if decide ((2 : Int) < (c : Int)) = true then 1 else 0) - (if decide ((3 : Int) < (c : Int)) = true then 1 else 0)
      split <;> split <;> omega
    have r1' : r < 5 - (if decide ((2 : Int) < (c : Int)) = true then 1 else 0) - (if decide ((3 : Int) < (c : Int)) = true then 1 else 0) := r1
    have r4 : r < 5 := by
      revert r1'
      split <;> split <;> omega
    obtain ⟨r, rfl⟩ := Int.eq_ofNat_of_zero_le r0
    refine ⟨h, p, _, c, o, w, r, rfl, h3.set (by omega), by omega, by omega, by omega, by omega, by omega, by omega, by omega, fun x M3 k3 s3 k30 vq => ?_⟩
    have h4 : HandD M3 h p k3 := ((h3.set (m := n2 + 1 + 1 + 1 + 1) (by omega)).set k30).sub s3
    obtain ⟨S, hS⟩ := val_show vq
    obtain ⟨vk, sh⟩ := hS M3 rest_in
    refine sh _ ?_
    refine ⟨x, c, o, w, 0, r, rfl, vk, by omega, by omega, ?_⟩
    generalize hb : brD r c o w 0 x = b
    refine ⟨by decide, by decide, ?_⟩
    refine ⟨fun j env' M' => ∃ s4 s12, env' = [some (.ref a), some (.ref h), some (.int (0 + (i : Int))), s3', s4, some (.int (c : Int)), some (.int (o : Int)), some (.int (w : Int)), some (.int (r : Int)), some x, some (.str S), some (.bl b), s12, s13] ∧ M' = M3, ⟨s4, s12, rfl, rfl⟩, ?_, ?_⟩
    · rintro j y env' M' hd ⟨s4, s12, rfl, rfl⟩
      refine ⟨trivial, x, c, o, w, _, rfl, vk, by omega, own_known trivial, fun e => (by rw [num_reach (by omega)] at e; cases e), fun r' e hr' => ?_⟩
      injection e with e
      have e' : r = r' := by omega
      subst e'
      rw [hb]
      conv => whnf
      refine isi_bool (own_known trivial) (fun b' _ => ?_) fun h => absurd rfl (h b)
      refine Br.ff (ne_bl (Br.no (by simp) ?_))
      refine sh _ (ne_str (Br.no (by simp) ?_))
      exact ⟨_, _, rfl, rfl⟩
    · rintro env' M' ⟨s4, s12, rfl, rfl⟩
      refine ⟨trivial, ?_⟩
      refine ⟨⟨by decide, by decide, by decide⟩, szLe (by show 1 ≤ 1000000; decide), szLe (by show 8 ≤ 1000000; decide), fun lp nlp => ?_⟩
      have h5 : HandD (updM M' lp (.lst wrongs)) h p k3 := h4.sub ((Sub.refl _).new nlp)
      have hl2 : lp ≠ h := (neM h4.own nlp).symm
      refine ⟨h, p, k3, 8, rfl, h5, by decide, fun u2 u20 u21 => ?_⟩
      obtain ⟨y, hy, hm⟩ := at_mem (ds := wrongs) (v := u2) (by omega) (by show u2 < 8; omega)
      obtain ⟨ow, num⟩ := wrong_at hm
      refine ⟨wrongs, y, .inl ((setH_ne hl2).trans updM_same), hy, ?_⟩
      have sR : Sub (rest M' h) (setH (updM M' lp (.lst wrongs)) h p (k3 + 1)) := fun b u e => by
        have hb : b ≠ h := fun z => by
          subst z
          unfold rest at e
          rw [if_pos rfl] at e
          cases e
        rw [rest_at hb] at e
        have sN : Sub M' (updM M' lp (.lst wrongs)) := (Sub.refl _).new nlp
        exact (setH_ne hb).trans (sN _ _ e)
      obtain ⟨vk2, _⟩ := hS _ sR
      refine ⟨x, c, o, w, y, rfl, vk2, by omega, own_known ow, num, ?_⟩
      exact Br.ff ⟨_, _, _, _, _, _, _, _, _, _, _, _, rfl, k3 + 1, h5.set (by omega)⟩
  · rintro env' M' ⟨s2, s3, s4, s5, s6, s7, s8, s9, s10, s11, s12, s13, rfl, n2, h2⟩
    have n20 := h2.n0
    refine ⟨trivial, h, p, n2, 2, 4, 3, 0, 4, rfl, h2, by decide, by decide, by decide, by decide, by decide, by decide, fun v k' hb hk => ?_⟩
    obtain ⟨pp, hp⟩ := view_shn (M := setH M' h p k') (cs := 2) (by decide) 4 4 3 0 v (by decide) (by decide) hb
    refine ⟨v, 2, 4, 3, _, rfl, py_vk pp v hp.py, by decide, own_known trivial, fun e => (by cases e), fun r' e hr' => ?_⟩
    injection e with e
    have e' : 4 = r' := by omega
    subst e'
    rw [show brD 4 2 4 3 0 v = true from hb]
    conv => whnf
    refine isi_bool (own_known trivial) (fun b' _ => ?_) fun h => absurd rfl (h true)
    exact Br.tt ⟨_, Sub.refl _, q _⟩
theorem rd_law (T : Txt G mg) : Rd3 N_law (t_law G) (sp_law G) := by
  rintro ds M Q E ⟨a, ns, rfl, hl, ha, hM, q⟩
  exact ⟨a, ns, rfl, hl, ha, hM, fun M' => ⟨M', Sub.refl _, q M'⟩⟩
end My

namespace My
open PySem PySem.Spec PyProof.Rows L2 L3

variable {P : Program} {w : World} {G : Gm} {mg : Str → Option Value} {base : Heap}
theorem fn_check_reach (T : Txt G mg) {f : Addr} {fd : FuncData} (F : Fun G.K "check_reach" "check_reach" s_check_reach f fd) : Fn3 P w G.K mg base 1 f fd ["reach"] (sp_check_reach G) :=
  fn3_ok F sc_check_reach len_check_reach (fun cdv A outer s H E hr => der_check_reach T  f cdv A outer s H E hr) (rd_check_reach T)
theorem fn_law_draws (T : Txt G mg) {f : Addr} {fd : FuncData} (F : Fun G.K "_law_draws" "_law_draws" s_law_draws f fd) : Fn3 P w G.K mg base 1 f fd ["script", "many"] (sp_law_draws G) :=
  fn3_ok F sc_law_draws len_law_draws (fun cdv A outer s H E hr => der_law_draws T  f cdv A outer s H E hr) (rd_law_draws T)
theorem fn_law_take (T : Txt G mg) {f : Addr} {fd : FuncData} (F : Fun G.K "_law_take" "_law_take" s_law_take f fd) : Fn3 P w G.K mg base 1 f fd ["hand", "many"] (sp_law_take G) :=
  fn3_ok F sc_law_take len_law_take (fun cdv A outer s H E hr => der_law_take T  f cdv A outer s H E hr) (rd_law_take T)
theorem fn_law_integer (T : Txt G mg) {f : Addr} {fd : FuncData} (F : Fun G.K "_law_integer" "_law_integer" s_law_integer f fd) : Fn3 P w G.K mg base 1 f fd ["value"] (sp_law_integer G) :=
  fn3_ok F sc_law_integer len_law_integer (fun cdv A outer s H E hr => der_law_integer T  f cdv A outer s H E hr) (rd_law_integer T)
theorem fn_law_here (T : Txt G mg) {f_law_take : Addr} {fd_law_take : FuncData} (C_law_take : Cal P w G.K mg base 1 f_law_take fd_law_take "_law_take" ["hand", "many"] (sp_law_take G)) {f : Addr} {fd : FuncData} (F : Fun G.K "_law_here" "_law_here" s_law_here f fd) : Fn3 P w G.K mg base 2 f fd ["hand", "value", "own"] (sp_law_here G) :=
  fn3_ok F sc_law_here len_law_here (fun cdv A outer s H E hr => der_law_here T C_law_take f cdv A outer s H E hr) (rd_law_here T)
theorem all_is_branch (T : Txt G mg) {f : Addr} {fd : FuncData} (F : Fun G.K "is_branch" "is_branch" s_is_branch f fd) (m : mg "is_branch" = some (.ref f)) (kp : PySem.W.keepIn G.K (.ref f) = true) (b : Binds G.K fd ["value", "D", "own", "other", "reach", "colour"] []) : ∀ n, Fn3 P w G.K mg base (1 + n) f fd ["value", "D", "own", "other", "reach", "colour"] (spBrD n)
  | 0 => fn3_ok F sc_is_branch (len_is_branch 0) (fun cdv A outer s H E hr => der_is_branch T  ⟨fn3_none, m, kp, b⟩ f cdv A outer s H E hr) (rd_is_branch T (.inl rfl))
  | n + 1 => by
    have ih := all_is_branch T  F m kp b n
    exact fn3_ok F sc_is_branch (len_is_branch (n + 1)) (fun cdv A outer s H E hr => der_is_branch T  ⟨ih, m, kp, b⟩ f cdv A outer s H E hr) (rd_is_branch T (.inr ⟨n, rfl, rfl⟩))
theorem fn_is_branch (T : Txt G mg) {f : Addr} {fd : FuncData} (F : Fun G.K "is_branch" "is_branch" s_is_branch f fd) (m : mg "is_branch" = some (.ref f)) (kp : PySem.W.keepIn G.K (.ref f) = true) (b : Binds G.K fd ["value", "D", "own", "other", "reach", "colour"] []) : Fn3 P w G.K mg base 6 f fd ["value", "D", "own", "other", "reach", "colour"] (sp_is_branch G) := Fn3.mono (all_is_branch T  F m kp b 4) (by decide)
theorem fn_is_view (T : Txt G mg) {f_check_reach : Addr} {fd_check_reach : FuncData} (C_check_reach : Cal P w G.K mg base 1 f_check_reach fd_check_reach "check_reach" ["reach"] (sp_check_reach G)) {f_is_branch : Addr} {fd_is_branch : FuncData} (C_is_branch : Cal P w G.K mg base 6 f_is_branch fd_is_branch "is_branch" ["value", "D", "own", "other", "reach", "colour"] (sp_is_branch G)) {f : Addr} {fd : FuncData} (F : Fun G.K "is_view" "is_view" s_is_view f fd) : Fn3 P w G.K mg base 7 f fd ["value", "D", "own", "other", "reach"] (sp_is_view G) :=
  fn3_ok F sc_is_view len_is_view (fun cdv A outer s H E hr => der_is_view T C_check_reach C_is_branch f cdv A outer s H E hr) (rd_is_view T)
theorem all_law_drawn (T : Txt G mg) {f_law_take : Addr} {fd_law_take : FuncData} (C_law_take : Cal P w G.K mg base 1 f_law_take fd_law_take "_law_take" ["hand", "many"] (sp_law_take G)) {f : Addr} {fd : FuncData} (F : Fun G.K "_law_drawn" "_law_drawn" s_law_drawn f fd) (m : mg "_law_drawn" = some (.ref f)) (kp : PySem.W.keepIn G.K (.ref f) = true) (b : Binds G.K fd ["hand", "colours", "own", "other", "reach", "back"] []) : ∀ n, Fn3 P w G.K mg base (2 + n) f fd ["hand", "colours", "own", "other", "reach", "back"] (spDrw n)
  | 0 => fn3_ok F sc_law_drawn (len_law_drawn 0) (fun cdv A outer s H E hr => der_law_drawn T C_law_take ⟨fn3_none, m, kp, b⟩ (Nat.le_refl _) f cdv A outer s H E hr) (rd_law_drawn T (.inl rfl))
  | n + 1 => by
    have ih := all_law_drawn T C_law_take F m kp b n
    exact fn3_ok F sc_law_drawn (len_law_drawn (n + 1)) (fun cdv A outer s H E hr => der_law_drawn T C_law_take ⟨ih, m, kp, b⟩ (by omega) f cdv A outer s H E hr) (rd_law_drawn T (.inr ⟨n, rfl, rfl⟩))
theorem fn_law_drawn (T : Txt G mg) {f_law_take : Addr} {fd_law_take : FuncData} (C_law_take : Cal P w G.K mg base 1 f_law_take fd_law_take "_law_take" ["hand", "many"] (sp_law_take G)) {f : Addr} {fd : FuncData} (F : Fun G.K "_law_drawn" "_law_drawn" s_law_drawn f fd) (m : mg "_law_drawn" = some (.ref f)) (kp : PySem.W.keepIn G.K (.ref f) = true) (b : Binds G.K fd ["hand", "colours", "own", "other", "reach", "back"] []) : Fn3 P w G.K mg base 7 f fd ["hand", "colours", "own", "other", "reach", "back"] (sp_law_drawn G) := Fn3.mono (all_law_drawn T C_law_take F m kp b 4) (by decide)
theorem all_law_right (T : Txt G mg) {f_law_integer : Addr} {fd_law_integer : FuncData} (C_law_integer : Cal P w G.K mg base 1 f_law_integer fd_law_integer "_law_integer" ["value"] (sp_law_integer G)) {f : Addr} {fd : FuncData} (F : Fun G.K "_law_right" "_law_right" s_law_right f fd) (m : mg "_law_right" = some (.ref f)) (kp : PySem.W.keepIn G.K (.ref f) = true) (b : Binds G.K fd ["value", "colours", "own", "other", "reach", "back"] []) : ∀ n, Fn3 P w G.K mg base (2 + n) f fd ["value", "colours", "own", "other", "reach", "back"] (spBrD n)
  | 0 => fn3_ok F sc_law_right (len_law_right 0) (fun cdv A outer s H E hr => der_law_right T C_law_integer ⟨fn3_none, m, kp, b⟩ (Nat.le_refl _) f cdv A outer s H E hr) (rd_law_right T (.inl rfl))
  | n + 1 => by
    have ih := all_law_right T C_law_integer F m kp b n
    exact fn3_ok F sc_law_right (len_law_right (n + 1)) (fun cdv A outer s H E hr => der_law_right T C_law_integer ⟨ih, m, kp, b⟩ (by omega) f cdv A outer s H E hr) (rd_law_right T (.inr ⟨n, rfl, rfl⟩))
theorem fn_law_right (T : Txt G mg) {f_law_integer : Addr} {fd_law_integer : FuncData} (C_law_integer : Cal P w G.K mg base 1 f_law_integer fd_law_integer "_law_integer" ["value"] (sp_law_integer G)) {f : Addr} {fd : FuncData} (F : Fun G.K "_law_right" "_law_right" s_law_right f fd) (m : mg "_law_right" = some (.ref f)) (kp : PySem.W.keepIn G.K (.ref f) = true) (b : Binds G.K fd ["value", "colours", "own", "other", "reach", "back"] []) : Fn3 P w G.K mg base 7 f fd ["value", "colours", "own", "other", "reach", "back"] (sp_law_right G) := Fn3.mono (all_law_right T C_law_integer F m kp b 4) (by decide)
theorem all_law_changed (T : Txt G mg) {f_law_here : Addr} {fd_law_here : FuncData} (C_law_here : Cal P w G.K mg base 2 f_law_here fd_law_here "_law_here" ["hand", "value", "own"] (sp_law_here G)) {f_law_take : Addr} {fd_law_take : FuncData} (C_law_take : Cal P w G.K mg base 1 f_law_take fd_law_take "_law_take" ["hand", "many"] (sp_law_take G)) {f : Addr} {fd : FuncData} (F : Fun G.K "_law_changed" "_law_changed" s_law_changed f fd) (m : mg "_law_changed" = some (.ref f)) (kp : PySem.W.keepIn G.K (.ref f) = true) (b : Binds G.K fd ["hand", "value", "own", "other", "depth"] []) : ∀ n, Fn3 P w G.K mg base (3 + n) f fd ["hand", "value", "own", "other", "depth"] (spChg n)
  | 0 => fn3_ok F sc_law_changed (len_law_changed 0) (fun cdv A outer s H E hr => der_law_changed T C_law_here C_law_take ⟨fn3_none, m, kp, b⟩ (Nat.le_refl _) f cdv A outer s H E hr) (rd_law_changed T (.inl rfl))
  | n + 1 => by
    have ih := all_law_changed T C_law_here C_law_take F m kp b n
    exact fn3_ok F sc_law_changed (len_law_changed (n + 1)) (fun cdv A outer s H E hr => der_law_changed T C_law_here C_law_take ⟨ih, m, kp, b⟩ (by omega) f cdv A outer s H E hr) (rd_law_changed T (.inr ⟨n, rfl, rfl⟩))
theorem fn_law_changed (T : Txt G mg) {f_law_here : Addr} {fd_law_here : FuncData} (C_law_here : Cal P w G.K mg base 2 f_law_here fd_law_here "_law_here" ["hand", "value", "own"] (sp_law_here G)) {f_law_take : Addr} {fd_law_take : FuncData} (C_law_take : Cal P w G.K mg base 1 f_law_take fd_law_take "_law_take" ["hand", "many"] (sp_law_take G)) {f : Addr} {fd : FuncData} (F : Fun G.K "_law_changed" "_law_changed" s_law_changed f fd) (m : mg "_law_changed" = some (.ref f)) (kp : PySem.W.keepIn G.K (.ref f) = true) (b : Binds G.K fd ["hand", "value", "own", "other", "depth"] []) : Fn3 P w G.K mg base 8 f fd ["hand", "value", "own", "other", "depth"] (sp_law_changed G) := Fn3.mono (all_law_changed T C_law_here C_law_take F m kp b 4) (by decide)
theorem fn_law_refused (T : Txt G mg) {f_is_view : Addr} {fd_is_view : FuncData} (C_is_view : Cal P w G.K mg base 7 f_is_view fd_is_view "is_view" ["value", "D", "own", "other", "reach"] (sp_is_view G)) {f : Addr} {fd : FuncData} (F : Fun G.K "_law_refused" "_law_refused" s_law_refused f fd) : Fn3 P w G.K mg base 8 f fd ["value", "colours", "own", "other", "reach"] (sp_law_refused G) :=
  fn3_ok F sc_law_refused len_law_refused (fun cdv A outer s H E hr => der_law_refused T C_is_view f cdv A outer s H E hr) (rd_law_refused T)
theorem fn_law_value (T : Txt G mg) {f_law_take : Addr} {fd_law_take : FuncData} (C_law_take : Cal P w G.K mg base 1 f_law_take fd_law_take "_law_take" ["hand", "many"] (sp_law_take G)) {f_law_drawn : Addr} {fd_law_drawn : FuncData} (C_law_drawn : Cal P w G.K mg base 7 f_law_drawn fd_law_drawn "_law_drawn" ["hand", "colours", "own", "other", "reach", "back"] (sp_law_drawn G)) {f_law_changed : Addr} {fd_law_changed : FuncData} (C_law_changed : Cal P w G.K mg base 8 f_law_changed fd_law_changed "_law_changed" ["hand", "value", "own", "other", "depth"] (sp_law_changed G)) {f : Addr} {fd : FuncData} (F : Fun G.K "_law_value" "_law_value" s_law_value f fd) : Fn3 P w G.K mg base 9 f fd ["hand", "colours", "own", "other", "reach"] (sp_law_value G) :=
  fn3_ok F sc_law_value len_law_value (fun cdv A outer s H E hr => der_law_value T C_law_take C_law_drawn C_law_changed f cdv A outer s H E hr) (rd_law_value T)
theorem fn_law_all (T : Txt G mg) {f_law_draws : Addr} {fd_law_draws : FuncData} (C_law_draws : Cal P w G.K mg base 1 f_law_draws fd_law_draws "_law_draws" ["script", "many"] (sp_law_draws G)) {f_law_take : Addr} {fd_law_take : FuncData} (C_law_take : Cal P w G.K mg base 1 f_law_take fd_law_take "_law_take" ["hand", "many"] (sp_law_take G)) {f_law_value : Addr} {fd_law_value : FuncData} (C_law_value : Cal P w G.K mg base 9 f_law_value fd_law_value "_law_value" ["hand", "colours", "own", "other", "reach"] (sp_law_value G)) {f_law_right : Addr} {fd_law_right : FuncData} (C_law_right : Cal P w G.K mg base 7 f_law_right fd_law_right "_law_right" ["value", "colours", "own", "other", "reach", "back"] (sp_law_right G)) {f_is_view : Addr} {fd_is_view : FuncData} (C_is_view : Cal P w G.K mg base 7 f_is_view fd_is_view "is_view" ["value", "D", "own", "other", "reach"] (sp_is_view G)) {f_law_refused : Addr} {fd_law_refused : FuncData} (C_law_refused : Cal P w G.K mg base 8 f_law_refused fd_law_refused "_law_refused" ["value", "colours", "own", "other", "reach"] (sp_law_refused G)) {f_law_drawn : Addr} {fd_law_drawn : FuncData} (C_law_drawn : Cal P w G.K mg base 7 f_law_drawn fd_law_drawn "_law_drawn" ["hand", "colours", "own", "other", "reach", "back"] (sp_law_drawn G)) {f : Addr} {fd : FuncData} (F : Fun G.K "_law_all" "_law_all" s_law_all f fd) : Fn3 P w G.K mg base 10 f fd ["script"] (sp_law_all G) :=
  fn3_ok F sc_law_all len_law_all (fun cdv A outer s H E hr => der_law_all T C_law_draws C_law_take C_law_value C_law_right C_is_view C_law_refused C_law_drawn f cdv A outer s H E hr) (rd_law_all T)
theorem fn_law (T : Txt G mg) {f_law_all : Addr} {fd_law_all : FuncData} (C_law_all : Cal P w G.K mg base 10 f_law_all fd_law_all "_law_all" ["script"] (sp_law_all G)) {f : Addr} {fd : FuncData} (F : Fun G.K "law" "law" s_law f fd) : Fn3 P w G.K mg base 11 f fd ["script"] (sp_law G) :=
  fn3_ok F sc_law len_law (fun cdv A outer s H E hr => der_law T C_law_all f cdv A outer s H E hr) (rd_law T)
theorem all_mk {l : PySem.W.OpenLaw} {w : World} {K : PySem.W.Frag} {h : Heap} {mg : Str → Option Value} {fa : Addr} (X : K.In h) (GG : h.Ns mainGlobals mg) (hfa : mg "law" = some (.ref fa))
    {od0 an0 : Option Addr} {sl0 : Array (Option Value)} {oc0 kV0 dc0 pm0 cd0 ct0 : Value} {f0 : Addr} {od1 an1 : Option Addr} {sl1 : Array (Option Value)} {oc1 kV1 dc1 pm1 cd1 ct1 : Value} {f1 : Addr} {od2 an2 : Option Addr} {sl2 : Array (Option Value)} {oc2 kV2 dc2 pm2 cd2 ct2 : Value} {f2 : Addr} {od3 an3 : Option Addr} {sl3 : Array (Option Value)} {oc3 kV3 dc3 pm3 cd3 ct3 : Value} {f3 : Addr} {od4 an4 : Option Addr} {sl4 : Array (Option Value)} {oc4 kV4 dc4 pm4 cd4 ct4 : Value} {f4 : Addr} {od5 an5 : Option Addr} {sl5 : Array (Option Value)} {oc5 kV5 dc5 pm5 cd5 ct5 : Value} {f5 : Addr} {od6 an6 : Option Addr} {sl6 : Array (Option Value)} {oc6 kV6 dc6 pm6 cd6 ct6 : Value} {f6 : Addr} {od7 an7 : Option Addr} {sl7 : Array (Option Value)} {oc7 kV7 dc7 pm7 cd7 ct7 : Value} {f7 : Addr} {od8 an8 : Option Addr} {sl8 : Array (Option Value)} {oc8 kV8 dc8 pm8 cd8 ct8 : Value} {f8 : Addr} {od9 an9 : Option Addr} {sl9 : Array (Option Value)} {oc9 kV9 dc9 pm9 cd9 ct9 : Value} {f9 : Addr} {od10 an10 : Option Addr} {sl10 : Array (Option Value)} {oc10 kV10 dc10 pm10 cd10 ct10 : Value} {f10 : Addr} {od11 an11 : Option Addr} {sl11 : Array (Option Value)} {oc11 kV11 dc11 pm11 cd11 ct11 : Value} {f11 : Addr} {od12 an12 : Option Addr} {sl12 : Array (Option Value)} {oc12 kV12 dc12 pm12 cd12 ct12 : Value} {f12 : Addr} {od13 an13 : Option Addr} {sl13 : Array (Option Value)} {oc13 kV13 dc13 pm13 cd13 ct13 : Value} {f13 : Addr}
    (a0 : PySem.W.nsIn K mainGlobals "check_reach" = some (some (.ref f0))) (l0 : K.lookup f0 = some ⟨oc0, od0, .func (PySem.W.fnOf "check_reach" "check_reach" (defArgs s_check_reach) (defBody s_check_reach) (defScope s_check_reach) .none kV0 dc0 pm0 an0 cd0 ct0), sl0⟩) (c0 : PySem.W.codeIn K cd0 "check_reach" = true) (k0 : PySem.W.keepIn K (.ref f0) = true)
    (a1 : PySem.W.nsIn K mainGlobals "is_branch" = some (some (.ref f1))) (l1 : K.lookup f1 = some ⟨oc1, od1, .func (PySem.W.fnOf "is_branch" "is_branch" (defArgs s_is_branch) (defBody s_is_branch) (defScope s_is_branch) .none kV1 dc1 pm1 an1 cd1 ct1), sl1⟩) (c1 : PySem.W.codeIn K cd1 "is_branch" = true) (k1 : PySem.W.keepIn K (.ref f1) = true)
    (a2 : PySem.W.nsIn K mainGlobals "is_view" = some (some (.ref f2))) (l2 : K.lookup f2 = some ⟨oc2, od2, .func (PySem.W.fnOf "is_view" "is_view" (defArgs s_is_view) (defBody s_is_view) (defScope s_is_view) .none kV2 dc2 pm2 an2 cd2 ct2), sl2⟩) (c2 : PySem.W.codeIn K cd2 "is_view" = true) (k2 : PySem.W.keepIn K (.ref f2) = true)
    (a3 : PySem.W.nsIn K mainGlobals "_law_draws" = some (some (.ref f3))) (l3 : K.lookup f3 = some ⟨oc3, od3, .func (PySem.W.fnOf "_law_draws" "_law_draws" (defArgs s_law_draws) (defBody s_law_draws) (defScope s_law_draws) .none kV3 dc3 pm3 an3 cd3 ct3), sl3⟩) (c3 : PySem.W.codeIn K cd3 "_law_draws" = true) (k3 : PySem.W.keepIn K (.ref f3) = true)
    (a4 : PySem.W.nsIn K mainGlobals "_law_take" = some (some (.ref f4))) (l4 : K.lookup f4 = some ⟨oc4, od4, .func (PySem.W.fnOf "_law_take" "_law_take" (defArgs s_law_take) (defBody s_law_take) (defScope s_law_take) .none kV4 dc4 pm4 an4 cd4 ct4), sl4⟩) (c4 : PySem.W.codeIn K cd4 "_law_take" = true) (k4 : PySem.W.keepIn K (.ref f4) = true)
    (a5 : PySem.W.nsIn K mainGlobals "_law_integer" = some (some (.ref f5))) (l5 : K.lookup f5 = some ⟨oc5, od5, .func (PySem.W.fnOf "_law_integer" "_law_integer" (defArgs s_law_integer) (defBody s_law_integer) (defScope s_law_integer) .none kV5 dc5 pm5 an5 cd5 ct5), sl5⟩) (c5 : PySem.W.codeIn K cd5 "_law_integer" = true) (k5 : PySem.W.keepIn K (.ref f5) = true)
    (a6 : PySem.W.nsIn K mainGlobals "_law_drawn" = some (some (.ref f6))) (l6 : K.lookup f6 = some ⟨oc6, od6, .func (PySem.W.fnOf "_law_drawn" "_law_drawn" (defArgs s_law_drawn) (defBody s_law_drawn) (defScope s_law_drawn) .none kV6 dc6 pm6 an6 cd6 ct6), sl6⟩) (c6 : PySem.W.codeIn K cd6 "_law_drawn" = true) (k6 : PySem.W.keepIn K (.ref f6) = true)
    (a7 : PySem.W.nsIn K mainGlobals "_law_right" = some (some (.ref f7))) (l7 : K.lookup f7 = some ⟨oc7, od7, .func (PySem.W.fnOf "_law_right" "_law_right" (defArgs s_law_right) (defBody s_law_right) (defScope s_law_right) .none kV7 dc7 pm7 an7 cd7 ct7), sl7⟩) (c7 : PySem.W.codeIn K cd7 "_law_right" = true) (k7 : PySem.W.keepIn K (.ref f7) = true)
    (a8 : PySem.W.nsIn K mainGlobals "_law_here" = some (some (.ref f8))) (l8 : K.lookup f8 = some ⟨oc8, od8, .func (PySem.W.fnOf "_law_here" "_law_here" (defArgs s_law_here) (defBody s_law_here) (defScope s_law_here) .none kV8 dc8 pm8 an8 cd8 ct8), sl8⟩) (c8 : PySem.W.codeIn K cd8 "_law_here" = true) (k8 : PySem.W.keepIn K (.ref f8) = true)
    (a9 : PySem.W.nsIn K mainGlobals "_law_changed" = some (some (.ref f9))) (l9 : K.lookup f9 = some ⟨oc9, od9, .func (PySem.W.fnOf "_law_changed" "_law_changed" (defArgs s_law_changed) (defBody s_law_changed) (defScope s_law_changed) .none kV9 dc9 pm9 an9 cd9 ct9), sl9⟩) (c9 : PySem.W.codeIn K cd9 "_law_changed" = true) (k9 : PySem.W.keepIn K (.ref f9) = true)
    (a10 : PySem.W.nsIn K mainGlobals "_law_value" = some (some (.ref f10))) (l10 : K.lookup f10 = some ⟨oc10, od10, .func (PySem.W.fnOf "_law_value" "_law_value" (defArgs s_law_value) (defBody s_law_value) (defScope s_law_value) .none kV10 dc10 pm10 an10 cd10 ct10), sl10⟩) (c10 : PySem.W.codeIn K cd10 "_law_value" = true) (k10 : PySem.W.keepIn K (.ref f10) = true)
    (a11 : PySem.W.nsIn K mainGlobals "_law_refused" = some (some (.ref f11))) (l11 : K.lookup f11 = some ⟨oc11, od11, .func (PySem.W.fnOf "_law_refused" "_law_refused" (defArgs s_law_refused) (defBody s_law_refused) (defScope s_law_refused) .none kV11 dc11 pm11 an11 cd11 ct11), sl11⟩) (c11 : PySem.W.codeIn K cd11 "_law_refused" = true) (k11 : PySem.W.keepIn K (.ref f11) = true)
    (a12 : PySem.W.nsIn K mainGlobals "_law_all" = some (some (.ref f12))) (l12 : K.lookup f12 = some ⟨oc12, od12, .func (PySem.W.fnOf "_law_all" "_law_all" (defArgs s_law_all) (defBody s_law_all) (defScope s_law_all) .none kV12 dc12 pm12 an12 cd12 ct12), sl12⟩) (c12 : PySem.W.codeIn K cd12 "_law_all" = true) (k12 : PySem.W.keepIn K (.ref f12) = true)
    (a13 : PySem.W.nsIn K mainGlobals "law" = some (some (.ref f13))) (l13 : K.lookup f13 = some ⟨oc13, od13, .func (PySem.W.fnOf "law" "law" (defArgs s_law) (defBody s_law) (defScope s_law) .none kV13 dc13 pm13 an13 cd13 ct13), sl13⟩) (c13 : PySem.W.codeIn K cd13 "law" = true) (k13 : PySem.W.keepIn K (.ref f13) = true)
    {CLookError : Addr} (gLookError : PySem.W.nsIn K mainGlobals "LookError" = some (some (.ref CLookError)))
    (xLookError : PySem.W.excIn K CLookError [.type "ValueError", .type "Exception", .type "BaseException", .type "object"] "ValueError.__new__" = true) (kkLookError : PySem.W.keepIn K (.ref CLookError) = true) (bLookError : PySem.W.subIn K (.ref CLookError) (.type "BaseException") = some true) (tLookError : PySem.W.typeIn K (.ref CLookError) = some (.type "type")) (iLookError : PySem.W.isClsIn K CLookError = true)
    {CBadReach : Addr} (gBadReach : PySem.W.nsIn K mainGlobals "BadReach" = some (some (.ref CBadReach)))
    (xBadReach : PySem.W.excIn K CBadReach [.type "ValueError", .type "Exception", .type "BaseException", .type "object"] "ValueError.__new__" = true) (kkBadReach : PySem.W.keepIn K (.ref CBadReach) = true) (bBadReach : PySem.W.subIn K (.ref CBadReach) (.type "BaseException") = some true) (tBadReach : PySem.W.typeIn K (.ref CBadReach) = some (.type "type")) (iBadReach : PySem.W.isClsIn K CBadReach = true)
    (sBadReach_BadReach : PySem.W.subIn K (.ref CBadReach) (.ref CBadReach) = some true)
    (sBadReach_LookError : PySem.W.subIn K (.ref CBadReach) (.ref CLookError) = some true)
    (sLookError_BadReach : PySem.W.subIn K (.ref CLookError) (.ref CBadReach) = some false)
    (sLookError_LookError : PySem.W.subIn K (.ref CLookError) (.ref CLookError) = some true)
    (z_abs : PySem.W.nsIn K mainGlobals "abs" = some none)
    (z_bool : PySem.W.nsIn K mainGlobals "bool" = some none)
    (z_enumerate : PySem.W.nsIn K mainGlobals "enumerate" = some none)
    (z_int : PySem.W.nsIn K mainGlobals "int" = some none)
    (z_isinstance : PySem.W.nsIn K mainGlobals "isinstance" = some none)
    (z_len : PySem.W.nsIn K mainGlobals "len" = some none)
    (z_list : PySem.W.nsIn K mainGlobals "list" = some none)
    (z_max : PySem.W.nsIn K mainGlobals "max" = some none)
    (z_range : PySem.W.nsIn K mainGlobals "range" = some none)
    (z_repr : PySem.W.nsIn K mainGlobals "repr" = some none)
    (z_tuple : PySem.W.nsIn K mainGlobals "tuple" = some none)
    {tk_MOST_SEEN : Tok} (m_MOST_SEEN : PySem.W.nsIn K mainGlobals "MOST_SEEN" = some (some (.int 4 tk_MOST_SEEN)))
    (nol : noList K = true) :
    ∃ fd : FuncData, (∀ (s : Shared) (v : Value), BindsTo s fd ⟨[v], []⟩ [("script", v)]) ∧ ∀ base : Heap, K.In base → base.Ns mainGlobals mg → Fn3 l.prog w K mg base 11 fa fd ["script"] (spLaw3 63) := by
  have e := hfa.symm.trans (PySem.W.mg_of X GG a13)
  cases e
  let G : Gm := ⟨K, CLookError, CBadReach⟩
  have T : Txt G mg := {
    nol := nol
    n_abs := PySem.W.mg_none_of X GG z_abs
    n_bool := PySem.W.mg_none_of X GG z_bool
    n_enumerate := PySem.W.mg_none_of X GG z_enumerate
    n_int := PySem.W.mg_none_of X GG z_int
    n_isinstance := PySem.W.mg_none_of X GG z_isinstance
    n_len := PySem.W.mg_none_of X GG z_len
    n_list := PySem.W.mg_none_of X GG z_list
    n_max := PySem.W.mg_none_of X GG z_max
    n_range := PySem.W.mg_none_of X GG z_range
    n_repr := PySem.W.mg_none_of X GG z_repr
    n_tuple := PySem.W.mg_none_of X GG z_tuple
    c_MOST_SEEN := ⟨_, PySem.W.mg_of X GG m_MOST_SEEN, ⟨_, rfl⟩⟩
    x_LookError := ⟨PySem.W.mg_of X GG gLookError, xLookError, kkLookError, bLookError, tLookError⟩
    x_BadReach := ⟨PySem.W.mg_of X GG gBadReach, xBadReach, kkBadReach, bBadReach, tBadReach⟩
    e_BadReach_BadReach := exm_of bBadReach iBadReach tBadReach sBadReach_BadReach
    e_BadReach_LookError := exm_of bLookError iLookError tLookError sBadReach_LookError
    e_LookError_BadReach := exm_of bBadReach iBadReach tBadReach sLookError_BadReach
    e_LookError_LookError := exm_of bLookError iLookError tLookError sLookError_LookError
  }
  have F0 := fun_mk (st := s_check_reach) l0 c0 k0
  have b0 := F0.binds (ps := ["reach"]) fun _ _ _ _ _ _ us hl => match us, hl with | [_], _ => rfl
  have F1 := fun_mk (st := s_is_branch) l1 c1 k1
  have b1 := F1.binds (ps := ["value", "D", "own", "other", "reach", "colour"]) fun _ _ _ _ _ _ us hl => match us, hl with | [_, _, _, _, _, _], _ => rfl
  have F2 := fun_mk (st := s_is_view) l2 c2 k2
  have b2 := F2.binds (ps := ["value", "D", "own", "other", "reach"]) fun _ _ _ _ _ _ us hl => match us, hl with | [_, _, _, _, _], _ => rfl
  have F3 := fun_mk (st := s_law_draws) l3 c3 k3
  have b3 := F3.binds (ps := ["script", "many"]) fun _ _ _ _ _ _ us hl => match us, hl with | [_, _], _ => rfl
  have F4 := fun_mk (st := s_law_take) l4 c4 k4
  have b4 := F4.binds (ps := ["hand", "many"]) fun _ _ _ _ _ _ us hl => match us, hl with | [_, _], _ => rfl
  have F5 := fun_mk (st := s_law_integer) l5 c5 k5
  have b5 := F5.binds (ps := ["value"]) fun _ _ _ _ _ _ us hl => match us, hl with | [_], _ => rfl
  have F6 := fun_mk (st := s_law_drawn) l6 c6 k6
  have b6 := F6.binds (ps := ["hand", "colours", "own", "other", "reach", "back"]) fun _ _ _ _ _ _ us hl => match us, hl with | [_, _, _, _, _, _], _ => rfl
  have F7 := fun_mk (st := s_law_right) l7 c7 k7
  have b7 := F7.binds (ps := ["value", "colours", "own", "other", "reach", "back"]) fun _ _ _ _ _ _ us hl => match us, hl with | [_, _, _, _, _, _], _ => rfl
  have F8 := fun_mk (st := s_law_here) l8 c8 k8
  have b8 := F8.binds (ps := ["hand", "value", "own"]) fun _ _ _ _ _ _ us hl => match us, hl with | [_, _, _], _ => rfl
  have F9 := fun_mk (st := s_law_changed) l9 c9 k9
  have b9 := F9.binds (ps := ["hand", "value", "own", "other", "depth"]) fun _ _ _ _ _ _ us hl => match us, hl with | [_, _, _, _, _], _ => rfl
  have F10 := fun_mk (st := s_law_value) l10 c10 k10
  have b10 := F10.binds (ps := ["hand", "colours", "own", "other", "reach"]) fun _ _ _ _ _ _ us hl => match us, hl with | [_, _, _, _, _], _ => rfl
  have F11 := fun_mk (st := s_law_refused) l11 c11 k11
  have b11 := F11.binds (ps := ["value", "colours", "own", "other", "reach"]) fun _ _ _ _ _ _ us hl => match us, hl with | [_, _, _, _, _], _ => rfl
  have F12 := fun_mk (st := s_law_all) l12 c12 k12
  have b12 := F12.binds (ps := ["script"]) fun _ _ _ _ _ _ us hl => match us, hl with | [_], _ => rfl
  have F13 := fun_mk (st := s_law) l13 c13 k13
  have b13 := F13.binds (ps := ["script"]) fun _ _ _ _ _ _ us hl => match us, hl with | [_], _ => rfl
  refine ⟨PySem.W.fnOf "law" "law" (defArgs s_law) (defBody s_law) (defScope s_law) .none kV13 dc13 pm13 an13 cd13 ct13, fun s v => .of_eq rfl, fun base _ _ => ?_⟩
  have G_check_reach : Fn3 l.prog w G.K mg base 1 _ _ ["reach"] (sp_check_reach G) := fn_check_reach T  F0
  have C_check_reach : Cal l.prog w G.K mg base 1 _ _ "check_reach" ["reach"] (sp_check_reach G) := ⟨G_check_reach, PySem.W.mg_of X GG a0, k0, b0⟩
  have G_law_draws : Fn3 l.prog w G.K mg base 1 _ _ ["script", "many"] (sp_law_draws G) := fn_law_draws T  F3
  have C_law_draws : Cal l.prog w G.K mg base 1 _ _ "_law_draws" ["script", "many"] (sp_law_draws G) := ⟨G_law_draws, PySem.W.mg_of X GG a3, k3, b3⟩
  have G_law_take : Fn3 l.prog w G.K mg base 1 _ _ ["hand", "many"] (sp_law_take G) := fn_law_take T  F4
  have C_law_take : Cal l.prog w G.K mg base 1 _ _ "_law_take" ["hand", "many"] (sp_law_take G) := ⟨G_law_take, PySem.W.mg_of X GG a4, k4, b4⟩
  have G_law_integer : Fn3 l.prog w G.K mg base 1 _ _ ["value"] (sp_law_integer G) := fn_law_integer T  F5
  have C_law_integer : Cal l.prog w G.K mg base 1 _ _ "_law_integer" ["value"] (sp_law_integer G) := ⟨G_law_integer, PySem.W.mg_of X GG a5, k5, b5⟩
  have G_law_here : Fn3 l.prog w G.K mg base 2 _ _ ["hand", "value", "own"] (sp_law_here G) := fn_law_here T C_law_take F8
  have C_law_here : Cal l.prog w G.K mg base 2 _ _ "_law_here" ["hand", "value", "own"] (sp_law_here G) := ⟨G_law_here, PySem.W.mg_of X GG a8, k8, b8⟩
  have G_is_branch : Fn3 l.prog w G.K mg base 6 _ _ ["value", "D", "own", "other", "reach", "colour"] (sp_is_branch G) := fn_is_branch T  F1 (PySem.W.mg_of X GG a1) k1 b1
  have C_is_branch : Cal l.prog w G.K mg base 6 _ _ "is_branch" ["value", "D", "own", "other", "reach", "colour"] (sp_is_branch G) := ⟨G_is_branch, PySem.W.mg_of X GG a1, k1, b1⟩
  have G_is_view : Fn3 l.prog w G.K mg base 7 _ _ ["value", "D", "own", "other", "reach"] (sp_is_view G) := fn_is_view T C_check_reach C_is_branch F2
  have C_is_view : Cal l.prog w G.K mg base 7 _ _ "is_view" ["value", "D", "own", "other", "reach"] (sp_is_view G) := ⟨G_is_view, PySem.W.mg_of X GG a2, k2, b2⟩
  have G_law_drawn : Fn3 l.prog w G.K mg base 7 _ _ ["hand", "colours", "own", "other", "reach", "back"] (sp_law_drawn G) := fn_law_drawn T C_law_take F6 (PySem.W.mg_of X GG a6) k6 b6
  have C_law_drawn : Cal l.prog w G.K mg base 7 _ _ "_law_drawn" ["hand", "colours", "own", "other", "reach", "back"] (sp_law_drawn G) := ⟨G_law_drawn, PySem.W.mg_of X GG a6, k6, b6⟩
  have G_law_right : Fn3 l.prog w G.K mg base 7 _ _ ["value", "colours", "own", "other", "reach", "back"] (sp_law_right G) := fn_law_right T C_law_integer F7 (PySem.W.mg_of X GG a7) k7 b7
  have C_law_right : Cal l.prog w G.K mg base 7 _ _ "_law_right" ["value", "colours", "own", "other", "reach", "back"] (sp_law_right G) := ⟨G_law_right, PySem.W.mg_of X GG a7, k7, b7⟩
  have G_law_changed : Fn3 l.prog w G.K mg base 8 _ _ ["hand", "value", "own", "other", "depth"] (sp_law_changed G) := fn_law_changed T C_law_here C_law_take F9 (PySem.W.mg_of X GG a9) k9 b9
  have C_law_changed : Cal l.prog w G.K mg base 8 _ _ "_law_changed" ["hand", "value", "own", "other", "depth"] (sp_law_changed G) := ⟨G_law_changed, PySem.W.mg_of X GG a9, k9, b9⟩
  have G_law_refused : Fn3 l.prog w G.K mg base 8 _ _ ["value", "colours", "own", "other", "reach"] (sp_law_refused G) := fn_law_refused T C_is_view F11
  have C_law_refused : Cal l.prog w G.K mg base 8 _ _ "_law_refused" ["value", "colours", "own", "other", "reach"] (sp_law_refused G) := ⟨G_law_refused, PySem.W.mg_of X GG a11, k11, b11⟩
  have G_law_value : Fn3 l.prog w G.K mg base 9 _ _ ["hand", "colours", "own", "other", "reach"] (sp_law_value G) := fn_law_value T C_law_take C_law_drawn C_law_changed F10
  have C_law_value : Cal l.prog w G.K mg base 9 _ _ "_law_value" ["hand", "colours", "own", "other", "reach"] (sp_law_value G) := ⟨G_law_value, PySem.W.mg_of X GG a10, k10, b10⟩
  have G_law_all : Fn3 l.prog w G.K mg base 10 _ _ ["script"] (sp_law_all G) := fn_law_all T C_law_draws C_law_take C_law_value C_law_right C_is_view C_law_refused C_law_drawn F12
  have C_law_all : Cal l.prog w G.K mg base 10 _ _ "_law_all" ["script"] (sp_law_all G) := ⟨G_law_all, PySem.W.mg_of X GG a12, k12, b12⟩
  have G_law : Fn3 l.prog w G.K mg base 11 _ _ ["script"] (sp_law G) := fn_law T C_law_all F13
  exact G_law
end My
open PySem PySem.W PyProof.Rows
set_option maxRecDepth 100000 in
set_option maxHeartbeats 0 in
theorem PySem.Challenge.cw_looksfar_k06_is_view_holds : PySem.Challenge.rw_looksfar_k06_is_view.Holds := by
  w_on; o_law; k_head; (case hw => w_witness2)
  k_fill
  refine L3.walk3 (l := PySem.Challenge.rw_looksfar_k06_is_view) (n := 63) (k := 11) rfl (by decide) rfl ⟨⟨rfl, by decide, by decide⟩, rfl⟩ (fun w h Y => PySem.W.kIn_of Y) ?hnoL ?hFF
  case hnoL => intro w; first | rfl | decide +kernel | k_is
  case hFF =>
    intro w mg fa h KX G hmg
    refine' My.all_mk KX G hmg ?a0 ?l0 ?c0 ?k0 ?a1 ?l1 ?c1 ?k1 ?a2 ?l2 ?c2 ?k2 ?a3 ?l3 ?c3 ?k3 ?a4 ?l4 ?c4 ?k4 ?a5 ?l5 ?c5 ?k5 ?a6 ?l6 ?c6 ?k6 ?a7 ?l7 ?c7 ?k7 ?a8 ?l8 ?c8 ?k8 ?a9 ?l9 ?c9 ?k9 ?a10 ?l10 ?c10 ?k10 ?a11 ?l11 ?c11 ?k11 ?a12 ?l12 ?c12 ?k12 ?a13 ?l13 ?c13 ?k13 ?gLookError ?xLookError ?kkLookError ?bLookError ?tLookError ?iLookError ?gBadReach ?xBadReach ?kkBadReach ?bBadReach ?tBadReach ?iBadReach ?sBadReach_BadReach ?sBadReach_LookError ?sLookError_BadReach ?sLookError_LookError ?z_abs ?z_bool ?z_enumerate ?z_int ?z_isinstance ?z_len ?z_list ?z_max ?z_range ?z_repr ?z_tuple ?m_MOST_SEEN ?nol
    (case a0 => k_is)
    (case l0 => k_is)
    (case c0 => k_is)
    (case k0 => k_is)
    (case a1 => k_is)
    (case l1 => k_is)
    (case c1 => k_is)
    (case k1 => k_is)
    (case a2 => k_is)
    (case l2 => k_is)
    (case c2 => k_is)
    (case k2 => k_is)
    (case a3 => k_is)
    (case l3 => k_is)
    (case c3 => k_is)
    (case k3 => k_is)
    (case a4 => k_is)
    (case l4 => k_is)
    (case c4 => k_is)
    (case k4 => k_is)
    (case a5 => k_is)
    (case l5 => k_is)
    (case c5 => k_is)
    (case k5 => k_is)
    (case a6 => k_is)
    (case l6 => k_is)
    (case c6 => k_is)
    (case k6 => k_is)
    (case a7 => k_is)
    (case l7 => k_is)
    (case c7 => k_is)
    (case k7 => k_is)
    (case a8 => k_is)
    (case l8 => k_is)
    (case c8 => k_is)
    (case k8 => k_is)
    (case a9 => k_is)
    (case l9 => k_is)
    (case c9 => k_is)
    (case k9 => k_is)
    (case a10 => k_is)
    (case l10 => k_is)
    (case c10 => k_is)
    (case k10 => k_is)
    (case a11 => k_is)
    (case l11 => k_is)
    (case c11 => k_is)
    (case k11 => k_is)
    (case a12 => k_is)
    (case l12 => k_is)
    (case c12 => k_is)
    (case k12 => k_is)
    (case a13 => k_is)
    (case l13 => k_is)
    (case c13 => k_is)
    (case k13 => k_is)
    (case gLookError => k_is)
    (case xLookError => k_exc)
    (case kkLookError => k_is)
    (case bLookError => k_is)
    (case tLookError => k_is)
    (case iLookError => k_is)
    (case gBadReach => k_is)
    (case xBadReach => k_exc)
    (case kkBadReach => k_is)
    (case bBadReach => k_is)
    (case tBadReach => k_is)
    (case iBadReach => k_is)
    (case sBadReach_BadReach => k_is)
    (case sBadReach_LookError => k_is)
    (case sLookError_BadReach => k_is)
    (case sLookError_LookError => k_is)
    (case z_abs => k_is)
    (case z_bool => k_is)
    (case z_enumerate => k_is)
    (case z_int => k_is)
    (case z_isinstance => k_is)
    (case z_len => k_is)
    (case z_list => k_is)
    (case z_max => k_is)
    (case z_range => k_is)
    (case z_repr => k_is)
    (case z_tuple => k_is)
    (case m_MOST_SEEN => k_is)
    (case nol => first | rfl | decide +kernel | k_is)
